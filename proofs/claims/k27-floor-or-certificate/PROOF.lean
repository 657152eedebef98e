import PyProof.Rows.All
import Wide.All
import OpenK.AllK
import Wide.FinOn
import HandS.ForMost
import HandS.TupAny
import PyProof.FactsAll.tuple_0
import PyProof.FactsAll.tuple_2
import HandS.ForExc
import HandS.Property
import HandS.Zip
import HandS.IsInst
import HandS.Evl
import HandS.SetTxt0
import HandS.SetFor
import HandS.Strs
import HandS.Defaults
import HandS.Star
import HandS.ExcInit
import HandS.ExcField
import HandS.GenList
import PyProof.CompUse
import HandS.Replace
import HandS.Conv
import HandS.TryOnly
import PySem.Challenge.RW_deepedge_k27_whole_a_floor_or_a_certific
section
set_option autoImplicit false
namespace De
variable {A : Type} [DecidableEq A]

/-! ### lists: counting distinct values -/
theorem nodup_sub_len : ∀ {xs ys : List A}, xs.Nodup → (∀ x, x ∈ xs → x ∈ ys) → xs.length ≤ ys.length
  | [], _, _, _ => Nat.zero_le _
  | x :: xs, ys, hn, hs => by
    have hx : x ∈ ys := hs x List.mem_cons_self
    obtain ⟨hn1, hn2⟩ := List.nodup_cons.mp hn
    have ih := nodup_sub_len (xs := xs) (ys := ys.erase x) hn2 (fun y hy => by
      have hne : y ≠ x := fun e => hn1 (e ▸ hy)
      exact (List.mem_erase_of_ne hne).mpr (hs y (List.mem_cons_of_mem _ hy)))
    have hl := List.length_erase_of_mem hx
    have hp : 0 < ys.length := List.length_pos_of_mem hx
    rw [List.length_cons]
    omega

structure Ord (lt : A → A → Bool) : Prop where
  irr : ∀ x, lt x x = false
  tr : ∀ x y z, lt x y = true → lt y z = true → lt x z = true
  tot : ∀ x y, x ≠ y → lt x y = true ∨ lt y x = true

variable (lt : A → A → Bool)
def ins (x : A) : List A → List A
  | [] => [x]
  | y :: ys => if x = y then y :: ys else if lt x y then x :: y :: ys else y :: ins x ys
def dist (xs : List A) : List A := xs.foldr (ins lt) []
def Asc (xs : List A) : Prop := xs.Pairwise fun x y => lt x y = true
variable {lt}
theorem mem_ins {x y : A} : ∀ {ys : List A}, y ∈ ins lt x ys ↔ y = x ∨ y ∈ ys
  | [] => by simp [ins]
  | z :: zs => by
    unfold ins
    by_cases h : x = z
    · rw [if_pos h]
      constructor
      · exact fun q => .inr q
      · rintro (q | q)
        · rw [q, h]; exact List.mem_cons_self
        · exact q
    · rw [if_neg h]
      by_cases h2 : lt x z = true
      · rw [if_pos h2, List.mem_cons]
      · rw [if_neg h2, List.mem_cons, mem_ins, List.mem_cons]
        constructor
        · rintro (q | q | q)
          · exact .inr (.inl q)
          · exact .inl q
          · exact .inr (.inr q)
        · rintro (q | q | q)
          · exact .inr (.inl q)
          · exact .inl q
          · exact .inr (.inr q)
theorem mem_dist {x : A} : ∀ {xs : List A}, x ∈ dist lt xs ↔ x ∈ xs
  | [] => by simp [dist]
  | y :: ys => by
    show x ∈ ins lt y (dist lt ys) ↔ _
    rw [mem_ins, mem_dist, List.mem_cons]
theorem asc_ins (o : Ord lt) {x : A} : ∀ {ys : List A}, Asc lt ys → Asc lt (ins lt x ys)
  | [], _ => by simp [ins, Asc]
  | z :: zs, h => by
    unfold ins
    by_cases e : x = z
    · rw [if_pos e]; exact h
    · rw [if_neg e]
      obtain ⟨h1, h2⟩ := List.pairwise_cons.mp h
      by_cases e2 : lt x z = true
      · rw [if_pos e2]
        refine List.pairwise_cons.mpr ⟨fun y hy => ?_, h⟩
        rcases List.mem_cons.mp hy with q | q
        · rw [q]; exact e2
        · exact o.tr _ _ _ e2 (h1 y q)
      · rw [if_neg e2]
        refine List.pairwise_cons.mpr ⟨fun y hy => ?_, asc_ins o h2⟩
        rcases mem_ins.mp hy with q | q
        · rw [q]
          rcases o.tot x z e with r | r
          · exact absurd r e2
          · exact r
        · exact h1 y q
theorem asc_dist (o : Ord lt) : ∀ (xs : List A), Asc lt (dist lt xs)
  | [] => by simp [dist, Asc]
  | y :: ys => asc_ins o (asc_dist o ys)
theorem Asc.nodup (o : Ord lt) {xs : List A} (h : Asc lt xs) : xs.Nodup :=
  List.Pairwise.imp (fun {a b} q e => by rw [e, o.irr] at q; cases q) h
theorem nodup_dist (o : Ord lt) (xs : List A) : (dist lt xs).Nodup := (asc_dist o xs).nodup o
/-- ascending lists with the same members are one -/
theorem Asc.ext (o : Ord lt) : ∀ {xs ys : List A}, Asc lt xs → Asc lt ys → (∀ x, x ∈ xs ↔ x ∈ ys) → xs = ys
  | [], [], _, _, _ => rfl
  | [], y :: ys, _, _, h => by have := (h y).mpr List.mem_cons_self; cases this
  | x :: xs, [], _, _, h => by have := (h x).mp List.mem_cons_self; cases this
  | x :: xs, y :: ys, hx, hy, h => by
    obtain ⟨x1, x2⟩ := List.pairwise_cons.mp hx
    obtain ⟨y1, y2⟩ := List.pairwise_cons.mp hy
    have exy : x = y := by
      rcases List.mem_cons.mp ((h x).mp List.mem_cons_self) with q | q
      · exact q
      · rcases List.mem_cons.mp ((h y).mpr List.mem_cons_self) with r | r
        · exact r.symm
        · have := o.tr _ _ _ (y1 x q) (x1 y r)
          rw [o.irr] at this; cases this
    subst exy
    have nx := (List.nodup_cons.mp (Asc.nodup o hx)).1
    have ny := (List.nodup_cons.mp (Asc.nodup o hy)).1
    rw [Asc.ext o x2 y2 fun z => ?_]
    constructor
    · intro q
      rcases List.mem_cons.mp ((h z).mp (List.mem_cons_of_mem _ q)) with r | r
      · exact absurd (r ▸ q) nx
      · exact r
    · intro q
      rcases List.mem_cons.mp ((h z).mpr (List.mem_cons_of_mem _ q)) with r | r
      · exact absurd (r ▸ q) ny
      · exact r
theorem dist_of (o : Ord lt) {xs ys : List A} (h : Asc lt ys) (hm : ∀ x, x ∈ ys ↔ x ∈ xs) : ys = dist lt xs :=
  Asc.ext o h (asc_dist o xs) fun x => by rw [hm, mem_dist]

variable (lt)
def nd (xs : List A) : Nat := (dist lt xs).length
variable {lt}
theorem nd_sub (o : Ord lt) {xs ys : List A} (h : ∀ x, x ∈ xs → x ∈ ys) : nd lt xs ≤ nd lt ys :=
  nodup_sub_len (nodup_dist o xs) fun x hx => mem_dist.mpr (h x (mem_dist.mp hx))
theorem nd_le (o : Ord lt) (xs : List A) : nd lt xs ≤ xs.length := nodup_sub_len (nodup_dist o xs) fun _ hx => mem_dist.mp hx
theorem nodup_nd (o : Ord lt) {xs ys : List A} (hn : xs.Nodup) (h : ∀ x, x ∈ xs → x ∈ ys) : xs.length ≤ nd lt ys :=
  nodup_sub_len hn fun x hx => mem_dist.mpr (h x hx)
theorem nd_cons_le (o : Ord lt) (x : A) (xs : List A) : nd lt (x :: xs) ≤ nd lt xs + 1 := by
  have := nodup_sub_len (xs := dist lt (x :: xs)) (ys := x :: dist lt xs) (nodup_dist o _) fun y hy => by
    rcases List.mem_cons.mp (mem_dist.mp hy) with q | q
    · rw [q]; exact List.mem_cons_self
    · exact List.mem_cons_of_mem _ (mem_dist.mpr q)
  exact this
theorem nd_nil : nd lt ([] : List A) = 0 := rfl
theorem nd_drop_mono (o : Ord lt) (xs : List A) {i j : Nat} (h : i ≤ j) : nd lt (xs.drop j) ≤ nd lt (xs.drop i) :=
  nd_sub o fun x hx => by
    have e : xs.drop j = (xs.drop i).drop (j - i) := by rw [List.drop_drop]; congr 1; omega
    rw [e] at hx
    exact List.mem_of_mem_drop hx
theorem nd_drop_succ (o : Ord lt) (xs : List A) (i : Nat) : nd lt (xs.drop i) ≤ nd lt (xs.drop (i + 1)) + 1 := by
  by_cases h : i < xs.length
  · rw [List.drop_eq_getElem_cons h]
    exact nd_cons_le o _ _
  · rw [List.drop_eq_nil_of_le (Nat.le_of_not_lt h)]
    exact Nat.zero_le _

/-! ### common prefix -/
def cp : List A → List A → Nat
  | x :: xs, y :: ys => if x = y then cp xs ys + 1 else 0
  | _, _ => 0
theorem cp_le_left : ∀ (xs ys : List A), cp xs ys ≤ xs.length
  | [], _ => by simp [cp]
  | _ :: _, [] => by simp [cp]
  | x :: xs, y :: ys => by
    unfold cp
    split
    · have := cp_le_left xs ys
      rw [List.length_cons]; omega
    · exact Nat.zero_le _
theorem cp_le_right : ∀ (xs ys : List A), cp xs ys ≤ ys.length
  | [], _ => by simp [cp]
  | _ :: _, [] => by simp [cp]
  | x :: xs, y :: ys => by
    unfold cp
    split
    · have := cp_le_right xs ys
      rw [List.length_cons]; omega
    · exact Nat.zero_le _
theorem cp_take : ∀ (xs ys : List A), xs.take (cp xs ys) = ys.take (cp xs ys)
  | [], _ => by simp [cp]
  | _ :: _, [] => by simp [cp]
  | x :: xs, y :: ys => by
    unfold cp
    split
    · rename_i e
      rw [List.take_succ_cons, List.take_succ_cons, e, cp_take xs ys]
    · rfl
theorem cp_stop : ∀ (xs ys : List A), cp xs ys < ys.length → (xs.drop (cp xs ys)).take 1 ≠ (ys.drop (cp xs ys)).take 1
  | [], [], h => by simp [cp] at h
  | [], y :: ys, h => by simp [cp]
  | _ :: _, [], h => by simp [cp] at h
  | x :: xs, y :: ys, h => by
    unfold cp at h ⊢
    by_cases e : x = y
    · rw [if_pos e] at h ⊢
      rw [List.drop_succ_cons, List.drop_succ_cons]
      exact cp_stop xs ys (by rw [List.length_cons] at h; omega)
    · rw [if_neg e]
      simp [e]
theorem le_cp : ∀ {d : Nat} {xs ys : List A}, d ≤ ys.length → xs.take d = ys.take d → d ≤ cp xs ys
  | 0, _, _, _, _ => Nat.zero_le _
  | d + 1, [], y :: ys, _, h => by simp at h
  | d + 1, _, [], h, _ => by simp at h
  | d + 1, x :: xs, y :: ys, hl, h => by
    rw [List.take_succ_cons, List.take_succ_cons] at h
    injection h with h1 h2
    unfold cp
    rw [if_pos h1]
    have := le_cp (d := d) (by rw [List.length_cons] at hl; omega) h2
    omega
theorem take_of_cp {d : Nat} {xs ys : List A} (h : d ≤ cp xs ys) : xs.take d = ys.take d := by
  have e := congrArg (List.take d) (cp_take xs ys)
  rw [List.take_take, List.take_take, Nat.min_eq_left h] at e
  exact e

/-! ### depth -/
variable (lt)
def depthFrom (T : List A) (k : Nat) : Nat → Nat
  | 0 => 0
  | d + 1 => if k < nd lt (T.drop (d + 1)) then d + 1 else depthFrom T k d
def depth (T : List A) (k : Nat) : Nat := depthFrom lt T k (T.length - 1)
variable {lt}
theorem depthFrom_le (T : List A) (k : Nat) : ∀ d, depthFrom lt T k d ≤ d
  | 0 => Nat.le_refl _
  | d + 1 => by
    unfold depthFrom
    split
    · exact Nat.le_refl _
    · exact Nat.le_succ_of_le (depthFrom_le T k d)
theorem depthFrom_pos (T : List A) (k : Nat) : ∀ d, 0 < depthFrom lt T k d → k < nd lt (T.drop (depthFrom lt T k d))
  | 0, h => absurd h (Nat.lt_irrefl _)
  | d + 1, h => by
    unfold depthFrom at h ⊢
    by_cases e : k < nd lt (T.drop (d + 1))
    · rw [if_pos e]; exact e
    · rw [if_neg e] at h ⊢
      exact depthFrom_pos T k d h
theorem depthFrom_above (T : List A) (k : Nat) : ∀ d f, depthFrom lt T k d < f → f ≤ d → nd lt (T.drop f) ≤ k
  | 0, f, h, h2 => by unfold depthFrom at h; omega
  | d + 1, f, h, h2 => by
    unfold depthFrom at h
    by_cases e : k < nd lt (T.drop (d + 1))
    · rw [if_pos e] at h; omega
    · rw [if_neg e] at h
      by_cases q : f = d + 1
      · rw [q]; omega
      · exact depthFrom_above T k d f h (by omega)
theorem depth_le (T : List A) (k : Nat) : depth lt T k ≤ T.length - 1 := depthFrom_le ..
theorem depth_pos {T : List A} {k : Nat} (h : 0 < depth lt T k) : k < nd lt (T.drop (depth lt T k)) := depthFrom_pos _ _ _ h
theorem depth_above {T : List A} {k f : Nat} (h : depth lt T k < f) : nd lt (T.drop f) ≤ k := by
  by_cases e : f ≤ T.length - 1
  · exact depthFrom_above _ _ _ _ h e
  · rw [List.drop_eq_nil_of_le (by omega)]
    exact Nat.zero_le _
theorem depth_ge (o : Ord lt) {T : List A} {k f : Nat} (h : k < nd lt (T.drop f)) : f ≤ depth lt T k := by
  by_cases e : f ≤ depth lt T k
  · exact e
  · have := depth_above (lt := lt) (T := T) (k := k) (f := f) (by omega)
    omega
theorem depth_nd (o : Ord lt) (T : List A) (k : Nat) : nd lt (T.drop (depth lt T k)) ≤ k + 1 := by
  have h1 := nd_drop_succ o T (depth lt T k)
  have h2 := depth_above (lt := lt) (T := T) (k := k) (f := depth lt T k + 1) (by omega)
  omega
end De
end
section
set_option autoImplicit false
set_option linter.all false
namespace De
variable {A : Type} [DecidableEq A] {lt : A → A → Bool}

/-! ### slices of lists -/
theorem take_take_of_le {d f : Nat} {xs ys : List A} (h : d ≤ f) (e : xs.take f = ys.take f) : xs.take d = ys.take d := by
  have := congrArg (List.take d) e
  rwa [List.take_take, List.take_take, Nat.min_eq_left h] at this
theorem get_of_take {i f : Nat} {xs ys : List A} (h : i < f) (e : xs.take f = ys.take f) : xs[i]? = ys[i]? := by
  have := congrArg (fun l => l[i]?) e
  simpa [List.getElem?_take, h] using this
theorem take1_drop (xs : List A) (i : Nat) : (xs.drop i).take 1 = (xs[i]?).toList := by
  by_cases h : i < xs.length
  · rw [List.drop_eq_getElem_cons h, List.getElem?_eq_getElem h]
    rfl
  · rw [List.drop_eq_nil_of_le (by omega), List.getElem?_eq_none (by omega)]
    rfl
theorem mem_drop_split {d f : Nat} {xs : List A} {x : A} (h : d ≤ f) (hx : x ∈ xs.drop d) : (∃ i, d ≤ i ∧ i < f ∧ xs[i]? = some x) ∨ x ∈ xs.drop f := by
  obtain ⟨i, hi⟩ := List.mem_iff_getElem?.mp hx
  rw [List.getElem?_drop] at hi
  by_cases q : d + i < f
  · exact .inl ⟨d + i, by omega, q, hi⟩
  · refine .inr (List.mem_iff_getElem?.mpr ⟨d + i - f, ?_⟩)
    rw [List.getElem?_drop]
    rw [show f + (d + i - f) = d + i by omega]
    exact hi
theorem mem_drop_of_get {d i : Nat} {xs : List A} {x : A} (h : d ≤ i) (hx : xs[i]? = some x) : x ∈ xs.drop d :=
  List.mem_iff_getElem?.mpr ⟨i - d, by rw [List.getElem?_drop, show d + (i - d) = i by omega]; exact hx⟩
theorem mem_drop_mono {d f : Nat} {xs : List A} {x : A} (h : d ≤ f) (hx : x ∈ xs.drop f) : x ∈ xs.drop d := by
  obtain ⟨i, hi⟩ := List.mem_iff_getElem?.mp hx
  rw [List.getElem?_drop] at hi
  exact mem_drop_of_get (by omega) hi
/-- all of T from d on is in S from d on, if so from f on and they agree below f -/
theorem sub_down {d f : Nat} {S T : List A} (h : d ≤ f) (e : S.take f = T.take f) (hs : ∀ v, v ∈ T.drop f → v ∈ S.drop f) : ∀ v, v ∈ T.drop d → v ∈ S.drop d := fun v hv => by
  rcases mem_drop_split h hv with ⟨i, h1, h2, h3⟩ | q
  · exact mem_drop_of_get h1 ((get_of_take h2 e).trans h3)
  · exact mem_drop_mono h (hs v q)

/-! ### floors -/
variable (lt)
def others (S T : List A) (f : Nat) : List A := (dist lt (T.drop f)).filter fun v => !decide (v ∈ (S.drop f).take 1)
structure Floor (S T : List A) (k f : Nat) : Prop where
  room : f = 0 ∨ f + k + 1 ≤ min S.length T.length
  same : S.take f = T.take f
  sub : ∀ v, v ∈ T.drop f → v ∈ S.drop f
  up : nd lt (T.drop (f + 1)) ≤ k
  edge : (others lt S T f).length ≤ k
/-- the test as the program makes it -/
def isFloor (S T : List A) (f k : Nat) : Bool :=
  if 0 < f ∧ min S.length T.length < f + k + 1 then false
  else if S.take f ≠ T.take f then false
  else if ((dist lt (T.drop f)).all fun v => decide (v ∈ S.drop f)) = false ∨ k < nd lt (T.drop (f + 1)) then false
  else decide ((others lt S T f).length ≤ k)
variable {lt}
theorem isFloor_iff {S T : List A} {f k : Nat} : isFloor lt S T f k = true ↔ Floor lt S T k f := by
  unfold isFloor
  constructor
  · intro h
    by_cases h1 : 0 < f ∧ min S.length T.length < f + k + 1
    · rw [if_pos h1] at h; cases h
    · rw [if_neg h1] at h
      by_cases h2 : S.take f ≠ T.take f
      · rw [if_pos h2] at h; cases h
      · rw [if_neg h2] at h
        by_cases h3 : ((dist lt (T.drop f)).all fun v => decide (v ∈ S.drop f)) = false ∨ k < nd lt (T.drop (f + 1))
        · rw [if_pos h3] at h; cases h
        · rw [if_neg h3] at h
          have h4 := of_decide_eq_true h
          have h5 : ((dist lt (T.drop f)).all fun v => decide (v ∈ S.drop f)) = true := by
            cases q : ((dist lt (T.drop f)).all fun v => decide (v ∈ S.drop f)) with
            | true => rfl
            | false => exact absurd (.inl q) h3
          refine ⟨by omega, Decidable.not_not.mp h2, fun v hv => ?_, by omega, h4⟩
          exact of_decide_eq_true (List.all_eq_true.mp h5 v (mem_dist.mpr hv))
  · rintro ⟨h1, h2, h3, h4, h5⟩
    rw [if_neg (by omega), if_neg (fun q => q h2), if_neg ?_]
    · exact decide_eq_true h5
    · rintro (q | q)
      · have : ((dist lt (T.drop f)).all fun v => decide (v ∈ S.drop f)) = true := List.all_eq_true.mpr fun v hv => decide_eq_true (h3 v (mem_dist.mp hv))
        rw [this] at q; cases q
      · omega

/-! ### the barrier -/
inductive Why (A : Type) where
  | ground (i : Nat)
  | missing (v : A)
  | edge (vs : List A)
  deriving DecidableEq
variable (lt)
def firstMissing (S : List A) (vs : List A) : Option A := vs.find? fun v => !decide (v ∈ S)
/-- the values of the target above its depth -/
def vals (T : List A) (k : Nat) : List A := dist lt (T.drop (depth lt T k))
instance (S : List A) (d : Nat) (vs : List A) : Decidable (∃ x, S[d]? = some x ∧ x ∉ vs) :=
  match h : S[d]? with
  | none => isFalse fun ⟨x, e, _⟩ => by cases e
  | some y => if q : y ∈ vs then isFalse fun ⟨x, e, n⟩ => n (by cases e; exact q) else isTrue ⟨y, rfl, q⟩
def barrier2 (S : List A) (d : Nat) (vs : List A) (k : Nat) : Option A → Option (Why A)
  | some v => some (.missing v)
  | none => if k < vs.length ∧ ∃ x, S[d]? = some x ∧ x ∉ vs then some (.edge (vs.take (k + 1))) else none
def barrier (S T : List A) (d : Nat) (vs : List A) (k : Nat) : Option (Why A) :=
  if cp S T < d then some (.ground (cp S T)) else barrier2 S d vs k (firstMissing (S.drop d) vs)
variable {lt}
theorem firstMissing_none {S vs : List A} : firstMissing S vs = none ↔ ∀ v, v ∈ vs → v ∈ S := by
  unfold firstMissing
  rw [List.find?_eq_none]
  constructor
  · intro h v hv
    have := h v hv
    simpa using this
  · intro h v hv
    simpa using h v hv
theorem firstMissing_some {S vs : List A} {v : A} (h : firstMissing S vs = some v) : v ∈ vs ∧ v ∉ S := by
  unfold firstMissing at h
  have h1 := List.mem_of_find?_eq_some h
  have h2 := List.find?_some h
  exact ⟨h1, by simpa using h2⟩

structure Reach (lt : A → A → Bool) (S T : List A) (k : Nat) : Prop where
  same : S.take (depth lt T k) = T.take (depth lt T k)
  sub : ∀ v, v ∈ T.drop (depth lt T k) → v ∈ S.drop (depth lt T k)
  edge : k < nd lt (T.drop (depth lt T k)) → ∃ x, S[depth lt T k]? = some x ∧ x ∈ T.drop (depth lt T k)

theorem barrier_none {S T : List A} {k : Nat} : barrier S T (depth lt T k) (vals lt T k) k = none ↔ Reach lt S T k := by
  unfold barrier
  have hdl := depth_le (lt := lt) T k
  constructor
  · intro h
    by_cases h1 : cp S T < depth lt T k
    · rw [if_pos h1] at h; cases h
    · rw [if_neg h1] at h
      cases h2 : firstMissing (S.drop (depth lt T k)) (vals lt T k) with
      | some v => rw [h2] at h; cases h
      | none =>
        rw [h2] at h
        have h3 : ∀ v, v ∈ T.drop (depth lt T k) → v ∈ S.drop (depth lt T k) := fun v hv => firstMissing_none.mp h2 v (mem_dist.mpr hv)
        refine ⟨take_of_cp (by omega), h3, fun hk => ?_⟩
        by_cases h4 : k < (vals lt T k).length ∧ ∃ x, S[depth lt T k]? = some x ∧ x ∉ vals lt T k
        · unfold barrier2 at h
          simp only [if_pos h4] at h
          cases h
        · cases h5 : S[depth lt T k]? with
          | none =>
            exfalso
            have h6 : S.length ≤ depth lt T k := List.getElem?_eq_none_iff.mp h5
            have h7 : S.drop (depth lt T k) = [] := List.drop_eq_nil_of_le h6
            have h8 : T.drop (depth lt T k) = [] := by
              cases e : T.drop (depth lt T k) with
              | nil => rfl
              | cons y ys =>
                have := h3 y (by rw [e]; exact List.mem_cons_self)
                rw [h7] at this; cases this
            rw [h8] at hk
            exact absurd hk (Nat.not_lt_zero _)
          | some x =>
            refine ⟨x, rfl, ?_⟩
            by_cases h6 : x ∈ vals lt T k
            · exact mem_dist.mp h6
            · exact absurd ⟨hk, x, h5, h6⟩ h4
  · rintro ⟨h1, h2, h3⟩
    have hd : depth lt T k ≤ cp S T := le_cp (by omega) h1
    rw [if_neg (by omega)]
    rw [show firstMissing (S.drop (depth lt T k)) (vals lt T k) = none from firstMissing_none.mpr fun v hv => h2 v (mem_dist.mp hv)]
    unfold barrier2
    rw [if_neg]
    rintro ⟨q1, x, q2, q3⟩
    obtain ⟨y, r1, r2⟩ := h3 q1
    rw [q2] at r1; cases r1
    exact q3 (mem_dist.mpr r2)

/-- THE FLOORS (points 6, 7): there is one where nothing bars; the depth is the least, and below a floor down to the depth all are floors -/
theorem floor_depth (o : Ord lt) {S T : List A} {k : Nat} (r : Reach lt S T k) : Floor lt S T k (depth lt T k) := by
  obtain ⟨h1, h2, h3⟩ := r
  have hn : nd lt (T.drop (depth lt T k)) ≤ nd lt (S.drop (depth lt T k)) := nd_sub o h2
  refine ⟨?_, h1, h2, depth_above (by omega), ?_⟩
  · by_cases h0 : depth lt T k = 0
    · exact .inl h0
    · right
      have p := depth_pos (lt := lt) (T := T) (k := k) (by omega)
      have a := nd_le o (T.drop (depth lt T k))
      have b := nd_le o (S.drop (depth lt T k))
      rw [List.length_drop] at a b
      omega
  · by_cases hk : k < nd lt (T.drop (depth lt T k))
    · obtain ⟨x, q1, q2⟩ := h3 hk
      have hd := depth_nd o T k
      have hx : x ∈ dist lt (T.drop (depth lt T k)) := mem_dist.mpr q2
      have hsub : (others lt S T (depth lt T k)).length ≤ ((dist lt (T.drop (depth lt T k))).erase x).length := by
        refine nodup_sub_len ((nodup_dist o _).filter _) fun y hy => ?_
        obtain ⟨y1, y2⟩ := List.mem_filter.mp hy
        rw [take1_drop, q1] at y2
        have hne : y ≠ x := by simpa using y2
        exact (List.mem_erase_of_ne hne).mpr y1
      rw [List.length_erase_of_mem hx] at hsub
      have : nd lt (T.drop (depth lt T k)) = (dist lt (T.drop (depth lt T k))).length := rfl
      omega
    · have := List.length_filter_le (fun v => !decide (v ∈ (S.drop (depth lt T k)).take 1)) (dist lt (T.drop (depth lt T k)))
      have e : nd lt (T.drop (depth lt T k)) = (dist lt (T.drop (depth lt T k))).length := rfl
      have e2 : (others lt S T (depth lt T k)).length ≤ (dist lt (T.drop (depth lt T k))).length := this
      omega
theorem floor_ge (o : Ord lt) {S T : List A} {k f : Nat} (F : Floor lt S T k f) : depth lt T k ≤ f := by
  by_cases h0 : depth lt T k = 0
  · omega
  · have p := depth_pos (lt := lt) (T := T) (k := k) (by omega)
    have u := F.up
    by_cases q : depth lt T k ≤ f
    · exact q
    · have := nd_drop_mono o T (i := f + 1) (j := depth lt T k) (by omega)
      omega
theorem reach_of_floor (o : Ord lt) {S T : List A} {k f : Nat} (F : Floor lt S T k f) : Reach lt S T k := by
  have hge := floor_ge o F
  refine ⟨take_take_of_le hge F.same, sub_down hge F.same F.sub, fun hk => ?_⟩
  by_cases q : depth lt T k = f
  · rw [q]
    have e := F.edge
    cases h5 : S[f]? with
    | some x =>
      refine ⟨x, rfl, ?_⟩
      by_cases hx : x ∈ T.drop f
      · exact hx
      · exfalso
        have : others lt S T f = dist lt (T.drop f) := List.filter_eq_self.mpr fun y hy => by
          rw [take1_drop, h5]
          have : y ≠ x := fun z => hx (z ▸ mem_dist.mp hy)
          simpa using this
        rw [this] at e
        rw [q] at hk
        exact absurd hk (Nat.not_lt_of_le e)
    | none =>
      exfalso
      have : others lt S T f = dist lt (T.drop f) := List.filter_eq_self.mpr fun y hy => by
        rw [take1_drop, h5]; simp
      rw [this] at e
      rw [q] at hk
      exact absurd hk (Nat.not_lt_of_le e)
  · have hlt : depth lt T k < f := by omega
    have hT : depth lt T k < T.length := by
      by_cases z : depth lt T k < T.length
      · exact z
      · rw [List.drop_eq_nil_of_le (by omega)] at hk
        exact absurd hk (Nat.not_lt_zero _)
    refine ⟨T[depth lt T k], ?_, mem_drop_of_get (Nat.le_refl _) (List.getElem?_eq_getElem hT)⟩
    rw [get_of_take hlt F.same]
    exact List.getElem?_eq_getElem hT
theorem floor_between (o : Ord lt) {S T : List A} {k f g : Nat} (F : Floor lt S T k f) (h1 : depth lt T k ≤ g) (h2 : g ≤ f) : Floor lt S T k g := by
  by_cases q : g = f
  · rw [q]; exact F
  have hlt : g < f := by omega
  refine ⟨?_, take_take_of_le h2 F.same, sub_down h2 F.same F.sub, depth_above (by omega), ?_⟩
  · have := F.room
    by_cases z : g = 0
    · exact .inl z
    · right; omega
  · have hT : g < T.length := by have := F.room; omega
    have hS : S[g]? = some T[g] := by rw [get_of_take hlt F.same]; exact List.getElem?_eq_getElem hT
    have hsub : (others lt S T g).length ≤ nd lt (T.drop (g + 1)) := by
      refine nodup_nd o ((nodup_dist o _).filter _) fun y hy => ?_
      obtain ⟨y1, y2⟩ := List.mem_filter.mp hy
      rw [take1_drop, hS] at y2
      have hne : y ≠ T[g] := by simpa using y2
      have := mem_dist.mp y1
      rw [List.drop_eq_getElem_cons hT] at this
      rcases List.mem_cons.mp this with z | z
      · exact absurd z hne
      · exact z
    have := depth_above (lt := lt) (T := T) (k := k) (f := g + 1) (by omega)
    omega

variable (lt)
def floorsL (S T : List A) (k : Nat) : List Nat := (List.range (min S.length T.length + 1)).filter fun f => isFloor lt S T f k
variable {lt}
theorem mem_floorsL {S T : List A} {k f : Nat} : f ∈ floorsL lt S T k ↔ Floor lt S T k f := by
  unfold floorsL
  rw [List.mem_filter, isFloor_iff, List.mem_range]
  constructor
  · exact fun h => h.2
  · exact fun h => ⟨by have := h.room; omega, h⟩
theorem floorsL_ne (o : Ord lt) {S T : List A} {k : Nat} : floorsL lt S T k ≠ [] ↔ Reach lt S T k := by
  constructor
  · intro h
    obtain ⟨f, hf⟩ := List.exists_mem_of_ne_nil _ h
    exact reach_of_floor o (mem_floorsL.mp hf)
  · intro r h
    have := mem_floorsL.mpr (floor_depth o r)
    rw [h] at this; cases this
/-- an interval filtered out of a range is a range -/
theorem filter_range' {p : Nat → Bool} {d : Nat} (hd : ∀ f, p f = true → d ≤ f) (hb : ∀ f g, p f = true → d ≤ g → g ≤ f → p g = true) :
    ∀ n, (List.range n).filter p = List.range' d ((List.range n).filter p).length
  | 0 => rfl
  | n + 1 => by
    rw [List.range_succ, List.filter_append]
    have ih := filter_range' hd hb n
    cases q : p n with
    | false =>
      have : [n].filter p = [] := by simp [q]
      rw [this, List.append_nil]
      exact ih
    | true =>
      have e : [n].filter p = [n] := by simp [q]
      rw [e, List.length_append, List.length_singleton]
      have hl : d + ((List.range n).filter p).length = n := by
        have h1 : (List.range n).filter p = List.range' d (n - d) := by
          have hdn := hd n q
          apply List.Perm.eq_of_pairwise (le := (· < ·))
          · intro a b _ _ h1 h2
            exact absurd h1 (by omega)
          · exact List.Pairwise.filter _ List.pairwise_lt_range
          · exact List.pairwise_lt_range'
          · refine (List.perm_ext_iff_of_nodup ?_ ?_).mpr fun x => ?_
            · exact List.Pairwise.filter _ List.nodup_range
            · exact List.nodup_range'
            · rw [List.mem_filter, List.mem_range, List.mem_range'_1]
              constructor
              · rintro ⟨a, b⟩
                have := hd x b
                omega
              · rintro ⟨a, b⟩
                exact ⟨by omega, hb n x q a (by omega)⟩
        rw [h1, List.length_range']
        have hdn := hd n q
        omega
      rw [List.range'_concat, ← ih, Nat.one_mul, hl]
theorem floorsL_range (o : Ord lt) (S T : List A) (k : Nat) : floorsL lt S T k = List.range' (depth lt T k) (floorsL lt S T k).length :=
  filter_range' (p := fun f => isFloor lt S T f k) (fun f h => floor_ge o (isFloor_iff.mp h)) (fun f g h h1 h2 => isFloor_iff.mpr (floor_between o (isFloor_iff.mp h) h1 h2)) _
theorem floorsL_head (o : Ord lt) {S T : List A} {k : Nat} (r : Reach lt S T k) : (floorsL lt S T k)[0]? = some (depth lt T k) := by
  have h := (floorsL_ne o).mpr r
  have e := floorsL_range o S T k
  cases q : (floorsL lt S T k).length with
  | zero => exact absurd (List.eq_nil_of_length_eq_zero q) h
  | succ n =>
    rw [q] at e
    rw [e]
    rfl

/-! ### certificates -/
structure Cert (A : Type) where
  floor : Int
  wit : List A
  why : Why A
  deriving DecidableEq
variable (lt)
def ascB : List A → Bool
  | x :: y :: r => lt x y && ascB (y :: r)
  | _ => true
def valuesOf (vs cells : List A) (count : Nat) : Bool := decide (vs.length = count) && (vs.all fun v => decide (v ∈ cells)) && ascB lt vs
def whyOk (S T : List A) (f : Nat) (k : Nat) : Why A → Bool
  | .ground i => decide (i < f) && !decide ((S.drop i).take 1 = (T.drop i).take 1)
  | .missing v => decide (v ∈ T.drop f) && !decide (v ∈ S.drop f)
  | .edge vs => match S[f]? with
    | none => false
    | some x => !decide (T[f]? = some x) && valuesOf lt vs (T.drop f) (k + 1) && !decide (x ∈ vs)
def checkL (S T : List A) (k : Nat) (c : Cert A) : Bool :=
  decide (0 ≤ c.floor ∧ c.floor < T.length) && (if 0 < c.floor then valuesOf lt c.wit (T.drop c.floor.toNat) (k + 1) else decide (c.wit = [])) && whyOk lt S T c.floor.toNat k c.why
variable {lt}
theorem ascB_iff (o : Ord lt) : ∀ {vs : List A}, ascB lt vs = true ↔ Asc lt vs
  | [] => by simp [ascB, Asc]
  | [x] => by simp [ascB, Asc]
  | x :: y :: r => by
    unfold ascB
    rw [Bool.and_eq_true, ascB_iff o]
    constructor
    · rintro ⟨h1, h2⟩
      refine List.pairwise_cons.mpr ⟨fun z hz => ?_, h2⟩
      rcases List.mem_cons.mp hz with q | q
      · rw [q]; exact h1
      · exact o.tr _ _ _ h1 ((List.pairwise_cons.mp h2).1 z q)
    · intro h
      obtain ⟨h1, h2⟩ := List.pairwise_cons.mp h
      exact ⟨h1 y List.mem_cons_self, h2⟩
theorem valuesOf_iff (o : Ord lt) {vs cells : List A} {n : Nat} : valuesOf lt vs cells n = true ↔ vs.length = n ∧ (∀ v, v ∈ vs → v ∈ cells) ∧ Asc lt vs := by
  unfold valuesOf
  rw [Bool.and_eq_true, Bool.and_eq_true, ascB_iff o, decide_eq_true_iff, List.all_eq_true]
  simp only [decide_eq_true_iff]
  exact and_assoc
/-- THE CHECKER IS SOUND: where a certificate is accepted nothing is reached -/
theorem check_sound (o : Ord lt) {S T : List A} {k : Nat} {c : Cert A} (h : checkL lt S T k c = true) : ¬ Reach lt S T k := by
  intro r
  unfold checkL at h
  rw [Bool.and_eq_true, Bool.and_eq_true, decide_eq_true_iff] at h
  obtain ⟨⟨⟨h0, hT⟩, hw⟩, hy⟩ := h
  obtain ⟨f, hf⟩ : ∃ f : Nat, c.floor = f := ⟨c.floor.toNat, by omega⟩
  rw [hf] at hw hy hT
  have hfn : (f : Int).toNat = f := Int.toNat_natCast f
  rw [hfn] at hw hy
  have hge : f ≤ depth lt T k := by
    by_cases z : f = 0
    · omega
    · rw [if_pos (by omega)] at hw
      obtain ⟨w1, w2, w3⟩ := (valuesOf_iff o).mp hw
      have := nodup_nd o (w3.nodup o) w2
      exact depth_ge o (by omega)
  have hsub := sub_down hge r.same r.sub
  generalize c.why = y at hy
  cases y with
  | ground i =>
    unfold whyOk at hy
    rw [Bool.and_eq_true, decide_eq_true_iff] at hy
    obtain ⟨y1, y2⟩ := hy
    rw [take1_drop, take1_drop, get_of_take (show i < depth lt T k by omega) r.same] at y2
    simp at y2
  | missing v =>
    unfold whyOk at hy
    rw [Bool.and_eq_true, decide_eq_true_iff] at hy
    obtain ⟨y1, y2⟩ := hy
    have := hsub v y1
    simp [this] at y2
  | edge vs =>
    unfold whyOk at hy
    cases hx : S[f]? with
    | none => rw [hx] at hy; cases hy
    | some x =>
      rw [hx] at hy
      have hy' : (!decide (T[f]? = some x) && valuesOf lt vs (T.drop f) (k + 1) && !decide (x ∈ vs)) = true := hy
      rw [Bool.and_eq_true, Bool.and_eq_true] at hy'
      obtain ⟨⟨y1, y2⟩, y3⟩ := hy'
      obtain ⟨v1, v2, v3⟩ := (valuesOf_iff o).mp y2
      by_cases z : f = depth lt T k
      · have hk : k < nd lt (T.drop (depth lt T k)) := by
          rw [← z]
          have := nodup_nd o (v3.nodup o) v2
          omega
        obtain ⟨x', q1, q2⟩ := r.edge hk
        rw [← z, hx] at q1
        cases q1
        -- vs has all values of T from f on
        have hle := depth_nd o T k
        have hxv : x ∈ vs := by
          by_cases m : x ∈ vs
          · exact m
          · exfalso
            have hn : (x :: vs).Nodup := List.nodup_cons.mpr ⟨m, v3.nodup o⟩
            have := nodup_nd o hn (ys := T.drop (depth lt T k)) fun y hy => by
              rcases List.mem_cons.mp hy with e | e
              · rw [e]; exact q2
              · rw [← z]; exact v2 y e
            rw [List.length_cons] at this
            omega
        simp [hxv] at y3
      · have hl : f < depth lt T k := by omega
        have := get_of_take hl r.same
        rw [hx] at this
        simp [← this] at y1

variable (lt)
def certOf (T : List A) (k : Nat) (w : Why A) : Cert A := ⟨depth lt T k, if 0 < depth lt T k then (vals lt T k).take (k + 1) else [], w⟩
variable {lt}
/-- what decide gives is accepted -/
theorem check_own (o : Ord lt) {S T : List A} {k : Nat} {w : Why A} (h : barrier S T (depth lt T k) (vals lt T k) k = some w) : checkL lt S T k (certOf lt T k w) = true := by
  have hdl := depth_le (lt := lt) T k
  have hTl : 0 < T.length := by
    cases T with
    | cons => simp
    | nil =>
      exfalso
      unfold barrier at h
      have e0 : depth lt ([] : List A) k = 0 := rfl
      rw [e0, if_neg (Nat.not_lt_zero _)] at h
      simp [vals, dist, firstMissing, barrier2] at h
  have vT : ∀ v, v ∈ vals lt T k → v ∈ T.drop (depth lt T k) := fun v hv => mem_dist.mp hv
  have asc : Asc lt (vals lt T k) := asc_dist o _
  have ascT : ∀ n, Asc lt ((vals lt T k).take n) := fun n => asc.sublist (List.take_sublist _ _)
  have tk : k < (vals lt T k).length → valuesOf lt ((vals lt T k).take (k + 1)) (T.drop (depth lt T k)) (k + 1) = true := fun hk =>
    (valuesOf_iff o).mpr ⟨by rw [List.length_take]; omega, fun v hv => vT v (List.mem_of_mem_take hv), ascT _⟩
  unfold checkL certOf
  rw [Bool.and_eq_true, Bool.and_eq_true, decide_eq_true_iff]
  refine ⟨⟨⟨by simp, by show ((depth lt T k : Nat) : Int) < T.length; omega⟩, ?_⟩, ?_⟩
  · show (if (0 : Int) < (depth lt T k : Nat) then valuesOf lt (if 0 < depth lt T k then (vals lt T k).take (k + 1) else []) (T.drop ((depth lt T k : Nat) : Int).toNat) (k + 1) else decide ((if 0 < depth lt T k then (vals lt T k).take (k + 1) else []) = [])) = true
    rw [Int.toNat_natCast]
    by_cases z : 0 < depth lt T k
    · rw [if_pos (by omega), if_pos z]
      exact tk (depth_pos z)
    · rw [if_neg (by omega), if_neg z]
      simp
  · show whyOk lt S T ((depth lt T k : Nat) : Int).toNat k w = true
    rw [Int.toNat_natCast]
    unfold barrier at h
    by_cases h1 : cp S T < depth lt T k
    · rw [if_pos h1] at h
      cases h
      unfold whyOk
      rw [Bool.and_eq_true, decide_eq_true_iff]
      refine ⟨h1, ?_⟩
      have := cp_stop S T (by omega)
      simp only [this, decide_false, Bool.not_false]
    · rw [if_neg h1] at h
      cases h2 : firstMissing (S.drop (depth lt T k)) (vals lt T k) with
      | some v =>
        rw [h2] at h
        cases h
        obtain ⟨m1, m2⟩ := firstMissing_some h2
        unfold whyOk
        simp [vT v m1, m2]
      | none =>
        rw [h2] at h
        have h' : (if k < (vals lt T k).length ∧ ∃ x, S[depth lt T k]? = some x ∧ x ∉ vals lt T k then some (Why.edge ((vals lt T k).take (k + 1))) else none) = some w := (by unfold barrier2 at h; exact h)
        by_cases h4 : k < (vals lt T k).length ∧ ∃ x, S[depth lt T k]? = some x ∧ x ∉ vals lt T k
        · rw [if_pos h4] at h'
          cases h'
          obtain ⟨hk, x, hx, hn⟩ := h4
          unfold whyOk
          rw [hx]
          show (!decide (T[depth lt T k]? = some x) && valuesOf lt ((vals lt T k).take (k + 1)) (T.drop (depth lt T k)) (k + 1) && !decide (x ∈ (vals lt T k).take (k + 1))) = true
          rw [tk hk]
          have e1 : T[depth lt T k]? ≠ some x := fun e => hn (mem_dist.mpr (mem_drop_of_get (Nat.le_refl _) e))
          have e2 : x ∉ (vals lt T k).take (k + 1) := fun e => hn (List.mem_of_mem_take e)
          simp [e1, e2]
        · rw [if_neg h4] at h'
          cases h'
end De
end
section
set_option autoImplicit false
set_option linter.all false
namespace De
variable {A : Type} [DecidableEq A] {lt : A → A → Bool}

/-! ### instructions -/
inductive Ins where
  | pop
  | dup (i : Nat)
  | swap (i : Nat)
  deriving DecidableEq
def Ins.need : Ins → Nat
  | .pop => 1
  | .dup i => i
  | .swap i => i + 1
def Ins.valid (k : Nat) : Ins → Prop
  | .pop => True
  | .dup i => 1 ≤ i ∧ i ≤ k
  | .swap i => 1 ≤ i ∧ i ≤ k
def app (xs : List A) : Ins → List A
  | .pop => xs.take (xs.length - 1)
  | .dup i => xs ++ (xs[xs.length - i]?).toList
  | .swap i => xs.take (xs.length - 1 - i) ++ xs.drop (xs.length - 1) ++ (xs.take (xs.length - 1)).drop (xs.length - 1 - i + 1) ++ (xs.drop (xs.length - 1 - i)).take 1
structure Okk (k f : Nat) (xs : List A) (i : Ins) : Prop where
  valid : i.valid k
  need : i.need ≤ xs.length
  low : f + i.need ≤ xs.length
def Runs (k f : Nat) : List A → List Ins → List A → Prop
  | xs, [], ys => xs = ys
  | xs, i :: is, ys => Okk k f xs i ∧ Runs k f (app xs i) is ys
theorem Runs.snoc {k f : Nat} : ∀ {is : List Ins} {xs ys : List A} {i : Ins}, Runs k f xs is ys → Okk k f ys i → Runs k f xs (is ++ [i]) (app ys i)
  | [], xs, ys, i, h, o => by
    have e : xs = ys := h
    subst e
    exact ⟨o, rfl⟩
  | j :: is, xs, ys, i, h, o => ⟨h.1, Runs.snoc h.2 o⟩

/-! ### the changes of a site's cells -/
def exch (xs : List A) (i : Nat) : List A :=
  match xs[i]?, xs[xs.length - 1]? with
  | some a, some b => (xs.set i b).set (xs.length - 1) a
  | _, _ => xs
theorem split_top {xs : List A} {i : Nat} (h : i + 1 < xs.length) : ∃ l1 a l2 b, xs = l1 ++ a :: (l2 ++ [b]) ∧ l1.length = i := by
  have h1 : xs = xs.take i ++ xs.drop i := (List.take_append_drop i xs).symm
  have h2 : xs.drop i = xs[i] :: xs.drop (i + 1) := List.drop_eq_getElem_cons (by omega)
  have h3 : xs.drop (i + 1) ≠ [] := by
    intro e
    have := congrArg List.length e
    rw [List.length_drop] at this
    simp at this
    omega
  refine ⟨xs.take i, xs[i], (xs.drop (i + 1)).dropLast, (xs.drop (i + 1)).getLast h3, ?_, by rw [List.length_take]; omega⟩
  rw [List.dropLast_concat_getLast h3, ← h2, ← h1]
theorem exch_split (l1 l2 : List A) (a b : A) : exch (l1 ++ a :: (l2 ++ [b])) l1.length = l1 ++ b :: (l2 ++ [a]) := by
  unfold exch
  have e1 : (l1 ++ a :: (l2 ++ [b]))[l1.length]? = some a := by simp
  have el : (l1 ++ a :: (l2 ++ [b])).length - 1 = l1.length + (l2.length + 1) := by simp
  have e2 : (l1 ++ a :: (l2 ++ [b]))[l1.length + (l2.length + 1)]? = some b := by
    rw [List.getElem?_append_right (by omega)]
    simp
  rw [el, e1, e2]
  show ((l1 ++ a :: (l2 ++ [b])).set l1.length b).set (l1.length + (l2.length + 1)) a = _
  rw [List.set_append_right _ _ (Nat.le_refl _), Nat.sub_self, List.set_cons_zero, List.set_append_right _ _ (by omega)]
  rw [show l1.length + (l2.length + 1) - l1.length = l2.length + 1 by omega, List.set_cons_succ, List.set_append_right _ _ (Nat.le_refl _), Nat.sub_self, List.set_cons_zero]
theorem app_swap_split (l1 l2 : List A) (a b : A) : app (l1 ++ a :: (l2 ++ [b])) (.swap (l2.length + 1)) = l1 ++ b :: (l2 ++ [a]) := by
  unfold app
  have el : (l1 ++ a :: (l2 ++ [b])).length - 1 = l1.length + (l2.length + 1) := by simp
  have ew : l1 ++ a :: (l2 ++ [b]) = (l1 ++ a :: l2) ++ [b] := by simp
  have eL : (l1 ++ a :: l2).length = l1.length + (l2.length + 1) := by simp
  simp only [el]
  rw [show l1.length + (l2.length + 1) - (l2.length + 1) = l1.length by omega]
  have e1 : (l1 ++ a :: (l2 ++ [b])).take l1.length = l1 := by simp
  have e2 : (l1 ++ a :: (l2 ++ [b])).drop (l1.length + (l2.length + 1)) = [b] := by
    rw [ew, ← eL]; simp
  have e3 : ((l1 ++ a :: (l2 ++ [b])).take (l1.length + (l2.length + 1))).drop (l1.length + 1) = l2 := by
    rw [ew, ← eL, List.take_append_of_le_length (Nat.le_refl _), List.take_length]
    rw [show l1 ++ a :: l2 = (l1 ++ [a]) ++ l2 by simp, show l1.length + 1 = (l1 ++ [a]).length by simp]
    simp
  have e4 : ((l1 ++ a :: (l2 ++ [b])).drop l1.length).take 1 = [a] := by simp
  rw [e1, e2, e3, e4]
  simp
theorem exch_top {xs : List A} {i : Nat} (h : i + 1 = xs.length) : exch xs i = xs := by
  unfold exch
  have e : xs.length - 1 = i := by omega
  rw [e, List.getElem?_eq_getElem (by omega)]
  simp
theorem exch_swap {xs : List A} {i : Nat} (h : i + 1 < xs.length) : exch xs i = app xs (.swap (xs.length - 1 - i)) := by
  obtain ⟨l1, a, l2, b, e, hl⟩ := split_top h
  subst hl
  have : xs.length - 1 - l1.length = l2.length + 1 := by rw [e]; simp
  rw [this, e, exch_split, app_swap_split]
theorem exch_len (xs : List A) (i : Nat) : (exch xs i).length = xs.length := by
  unfold exch
  split
  · simp
  · rfl
theorem exch_parts {xs : List A} {i b : Nat} (h : i < xs.length) (hb : b ≤ i) : (exch xs i).take b = xs.take b ∧ ((exch xs i).drop b).Perm (xs.drop b) := by
  by_cases q : i + 1 = xs.length
  · rw [exch_top q]; exact ⟨rfl, .refl _⟩
  · obtain ⟨l1, a, l2, c, e, hl⟩ := split_top (xs := xs) (i := i) (by omega)
    subst hl
    rw [e, exch_split]
    constructor
    · rw [List.take_append_of_le_length hb, List.take_append_of_le_length hb]
    · rw [List.drop_append_of_le_length hb, List.drop_append_of_le_length hb]
      refine List.Perm.append_left _ ?_
      have p1 : (c :: (l2 ++ [a])).Perm (c :: a :: l2) := .cons _ (List.perm_append_singleton a l2)
      have p2 : (a :: (l2 ++ [c])).Perm (a :: c :: l2) := .cons _ (List.perm_append_singleton c l2)
      exact p1.trans ((List.Perm.swap a c l2).trans p2.symm)
theorem exch_at {xs : List A} {i : Nat} (h : i < xs.length) : (exch xs i)[i]? = xs[xs.length - 1]? ∧ (exch xs i)[xs.length - 1]? = xs[i]? := by
  by_cases q : i + 1 = xs.length
  · rw [exch_top q]
    have : xs.length - 1 = i := by omega
    rw [this]; exact ⟨rfl, rfl⟩
  · obtain ⟨l1, a, l2, c, e, hl⟩ := split_top (xs := xs) (i := i) (by omega)
    subst hl
    have el : xs.length - 1 = l1.length + (l2.length + 1) := by rw [e]; simp
    rw [el, e, exch_split]
    have f1 : ∀ (u v : A), (l1 ++ u :: (l2 ++ [v]))[l1.length]? = some u := by simp
    have f2 : ∀ (u v : A), (l1 ++ u :: (l2 ++ [v]))[l1.length + (l2.length + 1)]? = some v := fun u v => by
      rw [List.getElem?_append_right (by omega)]
      simp
    rw [f1, f1, f2, f2]
    exact ⟨rfl, rfl⟩
def rem (xs : List A) (i : Nat) : List A := (exch xs i).take (xs.length - 1)
theorem rem_len (xs : List A) (i : Nat) : (rem xs i).length = xs.length - 1 := by
  unfold rem
  rw [List.length_take, exch_len]; omega
theorem rem_take {xs : List A} {i b : Nat} (h : i < xs.length) (hb : b ≤ i) : (rem xs i).take b = xs.take b := by
  unfold rem
  rw [List.take_take, Nat.min_eq_left (by omega)]
  exact (exch_parts h hb).1
theorem rem_perm {xs : List A} {i b : Nat} {x : A} (hx : xs[i]? = some x) (hb : b ≤ i) : (xs.drop b).Perm (x :: (rem xs i).drop b) := by
  have h : i < xs.length := (List.getElem?_eq_some_iff.mp hx).1
  obtain ⟨_, p⟩ := exch_parts h hb
  refine p.symm.trans ?_
  have hl := exch_len xs i
  have hlast : (exch xs i)[xs.length - 1]? = some x := (exch_at h).2.trans hx
  have e : exch xs i = rem xs i ++ [x] := by
    unfold rem
    have h1 := (List.take_append_drop (xs.length - 1) (exch xs i)).symm
    have h2 : (exch xs i).drop (xs.length - 1) = [x] := by
      obtain ⟨q, r⟩ := List.getElem?_eq_some_iff.mp hlast
      rw [List.drop_eq_getElem_cons q, r, List.drop_eq_nil_of_le (by omega)]
    rw [h2] at h1
    exact h1
  rw [e, List.drop_append_of_le_length (by rw [rem_len]; omega)]
  exact List.perm_append_singleton _ _
def rep (xs : List A) (i s : Nat) : List A := rem (xs ++ (xs[s]?).toList) i
theorem rep_len {xs : List A} {i s : Nat} (h : s < xs.length) : (rep xs i s).length = xs.length := by
  unfold rep
  rw [rem_len, List.getElem?_eq_getElem h]
  simp
theorem rep_take {xs : List A} {i s b : Nat} (h : i < xs.length) (hb : b ≤ i) : (rep xs i s).take b = xs.take b := by
  unfold rep
  rw [rem_take (by rw [List.length_append]; omega) hb, List.take_append_of_le_length (by omega)]
theorem rep_perm {xs : List A} {i s b : Nat} {x y : A} (hi : xs[i]? = some x) (hs : xs[s]? = some y) (hb : b ≤ i) : (y :: xs.drop b).Perm (x :: (rep xs i s).drop b) := by
  have h : i < xs.length := (List.getElem?_eq_some_iff.mp hi).1
  unfold rep
  rw [hs]
  have := rem_perm (xs := xs ++ [y]) (i := i) (b := b) (x := x) (by rw [List.getElem?_append_left h]; exact hi) hb
  rw [List.drop_append_of_le_length (by omega)] at this
  exact (List.perm_append_singleton y (xs.drop b)).symm.trans this
def mov (xs : List A) (s i : Nat) : List A := exch (exch xs s) i
theorem mov_len (xs : List A) (s i : Nat) : (mov xs s i).length = xs.length := by
  unfold mov; rw [exch_len, exch_len]
theorem mov_parts {xs : List A} {s i b : Nat} (hs : s < xs.length) (hi : i < xs.length) (hb : b ≤ i) (hbs : b ≤ s) : (mov xs s i).take b = xs.take b ∧ ((mov xs s i).drop b).Perm (xs.drop b) := by
  unfold mov
  have h1 := exch_parts (xs := exch xs s) (i := i) (b := b) (by rw [exch_len]; exact hi) hb
  have h2 := exch_parts (xs := xs) (i := s) (b := b) hs hbs
  exact ⟨h1.1.trans h2.1, h1.2.trans h2.2⟩
theorem mov_at {xs : List A} {s i : Nat} (hs : s < xs.length) (hi : i < xs.length) : (mov xs s i)[i]? = xs[s]? := by
  unfold mov
  have h1 := (exch_at (xs := exch xs s) (i := i) (by rw [exch_len]; exact hi)).1
  rw [h1, exch_len]
  exact (exch_at hs).2
/-- where the top's old place lies after a move -/
theorem mov_top {xs : List A} {s i : Nat} (hs : s < xs.length) (hi : i < xs.length) (hne : i ≠ s) (hs2 : i + 1 < xs.length) : (mov xs s i)[xs.length - 1]? = xs[i]? := by
  unfold mov
  have h1 := (exch_at (xs := exch xs s) (i := i) (by rw [exch_len]; exact hi)).2
  rw [exch_len] at h1
  rw [h1]
  by_cases q : s + 1 = xs.length
  · rw [exch_top q]
  · obtain ⟨l1, a, l2, c, e, hl⟩ := split_top (xs := xs) (i := s) (by omega)
    subst hl
    rw [e, exch_split]
    by_cases z : i < l1.length
    · rw [List.getElem?_append_left z, List.getElem?_append_left z]
    · have z1 : l1.length < i := by omega
      rw [List.getElem?_append_right (by omega), List.getElem?_append_right (by omega)]
      obtain ⟨j, hj⟩ : ∃ j, i - l1.length = j + 1 := ⟨i - l1.length - 1, by omega⟩
      rw [hj, List.getElem?_cons_succ, List.getElem?_cons_succ]
      have hjl : j < l2.length := by
        have : xs.length = l1.length + (l2.length + 1) + 1 := by rw [e]; simp; omega
        omega
      rw [List.getElem?_append_left hjl, List.getElem?_append_left hjl]

/-! ### the instructions of the changes -/
theorem runs_pop {k f : Nat} {S xs : List A} {is : List Ins} (h : Runs k f S is xs) (hf : f < xs.length) : Runs k f S (is ++ [.pop]) (xs.take (xs.length - 1)) :=
  h.snoc ⟨trivial, by show 1 ≤ _; omega, by show f + 1 ≤ _; omega⟩
theorem runs_copy {k f : Nat} {S xs : List A} {is : List Ins} {i : Nat} (h : Runs k f S is xs) (hi : i < xs.length) (hk : xs.length ≤ i + k) (hf : f ≤ i) : Runs k f S (is ++ [.dup (xs.length - i)]) (xs ++ (xs[i]?).toList) := by
  have := h.snoc (i := .dup (xs.length - i)) ⟨⟨by omega, by omega⟩, by show xs.length - i ≤ _; omega, by show f + (xs.length - i) ≤ _; omega⟩
  unfold app at this
  simp only [show xs.length - (xs.length - i) = i by omega] at this
  exact this
theorem runs_exch {k f : Nat} {S xs : List A} {is : List Ins} {i : Nat} (h : Runs k f S is xs) (hi : i + 1 < xs.length) (hk : xs.length ≤ i + k + 1) (hf : f ≤ i) : Runs k f S (is ++ [.swap (xs.length - 1 - i)]) (exch xs i) := by
  rw [exch_swap hi]
  exact h.snoc ⟨⟨by omega, by omega⟩, by show xs.length - 1 - i + 1 ≤ _; omega, by show f + (xs.length - 1 - i + 1) ≤ _; omega⟩

/-! ### lower -/
def Free (xs : List A) (base : Nat) (keep : List A) (i : Nat) : Prop := ∃ x, xs[i]? = some x ∧ (x ∉ keep ∨ 1 < (xs.drop base).count x)
theorem free_exists (o : Ord lt) {xs keep : List A} {base k : Nat} (hb : base ≤ xs.length - 1 - k) (h1 : nd lt keep < xs.length) (h2 : nd lt keep ≤ k) : ∃ i, xs.length - 1 - k ≤ i ∧ i < xs.length ∧ Free xs base keep i := by
  by_cases q : ∃ i, xs.length - 1 - k ≤ i ∧ i < xs.length ∧ Free xs base keep i
  · exact q
  · exfalso
    have all : ∀ i, xs.length - 1 - k ≤ i → i < xs.length → ∀ x, xs[i]? = some x → x ∈ keep ∧ (xs.drop base).count x ≤ 1 := fun i a b x hx => by
      constructor
      · by_cases z : x ∈ keep
        · exact z
        · exact absurd ⟨i, a, b, x, hx, .inl z⟩ q
      · by_cases z : 1 < (xs.drop base).count x
        · exact absurd ⟨i, a, b, x, hx, .inr z⟩ q
        · omega
    have mem : ∀ x, x ∈ xs.drop (xs.length - 1 - k) → x ∈ keep ∧ (xs.drop base).count x ≤ 1 := fun x hx => by
      obtain ⟨j, hj⟩ := List.mem_iff_getElem?.mp hx
      rw [List.getElem?_drop] at hj
      exact all _ (by omega) (List.getElem?_eq_some_iff.mp hj).1 x hj
    have nodup : (xs.drop (xs.length - 1 - k)).Nodup := by
      rw [List.nodup_iff_count]
      intro x
      by_cases hx : x ∈ xs.drop (xs.length - 1 - k)
      · have h3 := (mem x hx).2
        have e : xs.drop (xs.length - 1 - k) = (xs.drop base).drop (xs.length - 1 - k - base) := by rw [List.drop_drop]; congr 1; omega
        have h4 : (xs.drop (xs.length - 1 - k)).count x ≤ (xs.drop base).count x := by
          rw [e]
          exact (List.drop_sublist _ _).count_le x
        omega
      · rw [List.count_eq_zero_of_not_mem hx]
        exact Nat.zero_le _
    have := nodup_nd o nodup fun x hx => (mem x hx).1
    rw [List.length_drop] at this
    omega
theorem free_kept {xs keep : List A} {base i : Nat} (hf : Free xs base keep i) (hb : base ≤ i) {v : A} (hv : v ∈ keep) (hx : v ∈ xs.drop base) : v ∈ (rem xs i).drop base := by
  obtain ⟨x, h1, h2⟩ := hf
  have p := rem_perm h1 hb
  rcases List.mem_cons.mp (p.mem_iff.mp hx) with e | e
  · subst e
    rcases h2 with q | q
    · exact absurd hv q
    · have c := p.count_eq v
      rw [List.count_cons_self] at c
      exact List.count_pos_iff.mp (by omega)
  · exact e
end De
end
section
set_option autoImplicit false
set_option linter.all false
namespace De
variable {A : Type} [DecidableEq A] {lt : A → A → Bool}

theorem count_perm : ∀ {xs ts : List A}, (∀ x, xs.count x ≤ ts.count x) → ts.length ≤ xs.length → xs.Perm ts
  | [], ts, _, hl => by
    have : ts = [] := List.eq_nil_of_length_eq_zero (by simpa using hl)
    rw [this]
  | x :: xs, ts, h, hl => by
    have h1 := h x
    rw [List.count_cons_self] at h1
    have hx : x ∈ ts := List.count_pos_iff.mp (by omega)
    have p := List.perm_cons_erase hx
    refine List.Perm.trans (.cons x (count_perm (xs := xs) (ts := ts.erase x) (fun y => ?_) ?_)) p.symm
    · have h2 := h y
      have h3 := p.count_eq y
      rw [List.count_cons] at h2 h3
      omega
    · rw [List.length_erase_of_mem hx]
      rw [List.length_cons] at hl
      omega
theorem get_mem_drop {xs : List A} {i b : Nat} {x : A} (h : xs[i]? = some x) (hb : b ≤ i) : x ∈ xs.drop b := mem_drop_of_get hb h
theorem drop_cons {xs : List A} {i : Nat} {x : A} (h : xs[i]? = some x) : xs.drop i = x :: xs.drop (i + 1) := by
  obtain ⟨q, r⟩ := List.getElem?_eq_some_iff.mp h
  rw [List.drop_eq_getElem_cons q, r]
theorem take_snoc {xs : List A} {i : Nat} {x : A} (h : xs[i]? = some x) : xs.take (i + 1) = xs.take i ++ [x] := by
  rw [List.take_add_one, h]; rfl
/-- the highest place of a value that is there -/
theorem get_of_mem_drop {xs : List A} {b : Nat} {x : A} (h : x ∈ xs.drop b) : ∃ i, b ≤ i ∧ i < xs.length ∧ xs[i]? = some x := by
  obtain ⟨j, hj⟩ := List.mem_iff_getElem?.mp h
  rw [List.getElem?_drop] at hj
  exact ⟨b + j, by omega, (List.getElem?_eq_some_iff.mp hj).1, hj⟩

/-! ### climb -/
structure ClimbI (T : List A) (k : Nat) (xs : List A) : Prop where
  len : xs.length ≤ T.length
  same : xs.take (xs.length - k) = T.take (xs.length - k)
  sub : ∀ v, v ∈ T.drop (xs.length - k) → v ∈ xs.drop (xs.length - k)
theorem climb_low {T xs : List A} {k : Nat} {x : A} (c : ClimbI T k xs) (h1 : xs.length < T.length) (h2 : xs.length < k) : ClimbI T k (xs ++ [x]) := by
  obtain ⟨a, b, s⟩ := c
  have e0 : xs.length - k = 0 := by omega
  have e1 : (xs ++ [x]).length - k = 0 := by simp; omega
  refine ⟨by simp; omega, by rw [e1]; rfl, fun v hv => ?_⟩
  rw [e1] at hv ⊢
  rw [e0] at s
  exact List.mem_append_left _ (s v hv)
theorem climb_high {T xs : List A} {k : Nat} {x : A} (c : ClimbI T k xs) (h1 : xs.length < T.length) (h2 : k ≤ xs.length) (hk : 0 < k) (hx : T[xs.length - k]? = some x) (ys : List A)
    (hy : ys = xs ++ [x] ∧ (xs ++ [x])[xs.length - k]? = some x ∨ ys = exch (xs ++ [x]) (xs.length - k)) : ClimbI T k ys := by
  obtain ⟨a, b, s⟩ := c
  have hlen : ys.length = xs.length + 1 := by
    rcases hy with ⟨e, _⟩ | e
    · rw [e]; simp
    · rw [e, exch_len]; simp
  have hb : ys.length - k = (xs.length - k) + 1 := by omega
  have hlt : xs.length - k < (xs ++ [x]).length := by simp; omega
  have htop : (xs ++ [x])[(xs ++ [x]).length - 1]? = some x := by simp
  have at_ : ys[xs.length - k]? = some x := by
    rcases hy with ⟨e, q⟩ | e
    · rw [e]; exact q
    · rw [e, (exch_at hlt).1, htop]
  have tk : ys.take (xs.length - k) = xs.take (xs.length - k) := by
    rcases hy with ⟨e, _⟩ | e
    · rw [e, List.take_append_of_le_length (by omega)]
    · rw [e, (exch_parts hlt (Nat.le_refl _)).1, List.take_append_of_le_length (by omega)]
  have pm : (ys.drop (xs.length - k)).Perm (xs.drop (xs.length - k) ++ [x]) := by
    rcases hy with ⟨e, _⟩ | e
    · rw [e, List.drop_append_of_le_length (by omega)]
    · rw [e]
      refine (exch_parts hlt (Nat.le_refl _)).2.trans ?_
      rw [List.drop_append_of_le_length (by omega)]
  refine ⟨by omega, ?_, fun v hv => ?_⟩
  · rw [hb, take_snoc at_, take_snoc hx, tk, b]
  · rw [hb] at hv ⊢
    have hv2 : v ∈ xs.drop (xs.length - k) := s v (mem_drop_mono (Nat.le_succ _) hv)
    rw [drop_cons at_] at pm
    have pm2 : (x :: ys.drop (xs.length - k + 1)).Perm (x :: xs.drop (xs.length - k)) := pm.trans (List.perm_append_singleton _ _)
    exact ((List.perm_cons x).mp pm2).mem_iff.mpr hv2

/-! ### finish -/
structure FinI (T : List A) (b : Nat) (xs : List A) : Prop where
  len : xs.length = T.length
  same : xs.take b = T.take b
  sub : ∀ v, v ∈ T.drop b → v ∈ xs.drop b
theorem fin_of_climb {T xs : List A} {k : Nat} (c : ClimbI T k xs) (h : T.length ≤ xs.length) : FinI T (xs.length - k) xs := ⟨Nat.le_antisymm c.len h, c.same, c.sub⟩
def defi (vs ts xs : List A) : Nat := (vs.map fun v => ts.count v - xs.count v).sum
theorem sum_lt {f g : A → Nat} : ∀ {vs : List A}, (∀ v, v ∈ vs → f v ≤ g v) → (∃ y, y ∈ vs ∧ f y < g y) → (vs.map f).sum < (vs.map g).sum
  | [], _, ⟨y, hy, _⟩ => by cases hy
  | v :: vs, h, ⟨y, hy, hl⟩ => by
    simp only [List.map_cons, List.sum_cons]
    have h1 := h v List.mem_cons_self
    have le : ∀ {ws : List A}, (∀ v, v ∈ ws → f v ≤ g v) → (ws.map f).sum ≤ (ws.map g).sum := by
      intro ws
      induction ws with
      | nil => intro _; exact Nat.le_refl _
      | cons w ws ih =>
        intro q
        simp only [List.map_cons, List.sum_cons]
        have a := q w List.mem_cons_self
        have b := ih fun z hz => q z (List.mem_cons_of_mem _ hz)
        omega
    have h2 := le (ws := vs) fun z hz => h z (List.mem_cons_of_mem _ hz)
    rcases List.mem_cons.mp hy with e | e
    · subst e; omega
    · have h3 := sum_lt (f := f) (g := g) (vs := vs) (fun z hz => h z (List.mem_cons_of_mem _ hz)) ⟨y, e, hl⟩
      omega
theorem defi_le (ts xs : List A) : ∀ (vs : List A), defi vs ts xs ≤ vs.length * ts.length
  | [] => by simp [defi]
  | v :: vs => by
    have ih := defi_le ts xs vs
    unfold defi at ih ⊢
    simp only [List.map_cons, List.sum_cons, List.length_cons]
    have := List.count_le_length (a := v) (l := ts)
    rw [Nat.add_mul]
    omega
def Lack (T xs : List A) (b : Nat) (v : A) : Prop := v ∈ T.drop b ∧ (xs.drop b).count v < (T.drop b).count v
def Extra (T xs : List A) (b i : Nat) : Prop := ∃ x, xs[i]? = some x ∧ (T.drop b).count x < (xs.drop b).count x
theorem extra_exists {T xs : List A} {b : Nat} {v : A} (c : FinI T b xs) (l : Lack T xs b v) : ∃ i, b ≤ i ∧ i < xs.length ∧ Extra T xs b i := by
  by_cases q : ∃ i, b ≤ i ∧ i < xs.length ∧ Extra T xs b i
  · exact q
  · exfalso
    have hle : ∀ x, (xs.drop b).count x ≤ (T.drop b).count x := fun x => by
      by_cases hx : x ∈ xs.drop b
      · obtain ⟨i, h1, h2, h3⟩ := get_of_mem_drop hx
        by_cases z : (T.drop b).count x < (xs.drop b).count x
        · exact absurd ⟨i, h1, h2, x, h3, z⟩ q
        · omega
      · rw [List.count_eq_zero_of_not_mem hx]; exact Nat.zero_le _
    have p := count_perm hle (by rw [List.length_drop, List.length_drop, c.len]; exact Nat.le_refl _)
    have := p.count_eq v
    have := l.2
    omega
theorem fin_rep {T xs : List A} {b i s : Nat} {v : A} (c : FinI T b xs) (l : Lack T xs b v) (hb : b ≤ i) (e : Extra T xs b i) (hs : xs[s]? = some v) :
    FinI T b (rep xs i s) ∧ defi (T.drop b) (T.drop b) ((rep xs i s).drop b) < defi (T.drop b) (T.drop b) (xs.drop b) := by
  obtain ⟨x, hx, hc⟩ := e
  have hi : i < xs.length := (List.getElem?_eq_some_iff.mp hx).1
  have p := rep_perm hx hs hb
  have cnt : ∀ z, ((rep xs i s).drop b).count z + (if x == z then 1 else 0) = (xs.drop b).count z + (if v == z then 1 else 0) := fun z => by
    have := p.count_eq z
    rw [List.count_cons, List.count_cons] at this
    exact this.symm
  have hne : v ≠ x := fun q => by
    have := l.2
    rw [q] at this
    omega
  refine ⟨⟨by rw [rep_len (List.getElem?_eq_some_iff.mp hs).1]; exact c.len, by rw [rep_take hi hb]; exact c.same, fun z hz => ?_⟩, ?_⟩
  · have h1 := cnt z
    have h2 : 0 < (T.drop b).count z := List.count_pos_iff.mpr hz
    have h3 : 0 < (xs.drop b).count z := List.count_pos_iff.mpr (c.sub z hz)
    refine List.count_pos_iff.mp ?_
    by_cases q : x = z
    · subst q
      rw [if_pos (by simp)] at h1
      omega
    · rw [if_neg (by simpa using q)] at h1
      omega
  · refine sum_lt (fun z hz => ?_) ⟨v, l.1, ?_⟩
    · have h1 := cnt z
      by_cases q : x = z
      · subst q
        rw [if_pos (by simp)] at h1
        omega
      · rw [if_neg (by simpa using q)] at h1
        omega
    · have h1 := cnt v
      have h2 := l.2
      rw [if_neg (by simpa using Ne.symm hne), if_pos (by simp)] at h1
      omega
theorem fin_perm {T xs : List A} {b : Nat} (c : FinI T b xs) (h : ∀ v, v ∈ T.drop b → ¬ (xs.drop b).count v < (T.drop b).count v) : (xs.drop b).Perm (T.drop b) := by
  refine (count_perm (fun x => ?_) ?_).symm
  · by_cases hx : x ∈ T.drop b
    · have := h x hx; omega
    · rw [List.count_eq_zero_of_not_mem hx]; exact Nat.zero_le _
  · rw [List.length_drop, List.length_drop, c.len]; exact Nat.le_refl _
structure SortI (T : List A) (j : Nat) (xs : List A) : Prop where
  same : xs.take j = T.take j
  perm : (xs.drop j).Perm (T.drop j)
theorem SortI.len {T xs : List A} {j : Nat} (c : SortI T j xs) (hj : j ≤ T.length) (hx : j ≤ xs.length) : xs.length = T.length := by
  have := c.perm.length_eq
  rw [List.length_drop, List.length_drop] at this
  omega
theorem sort_done {T xs : List A} {j : Nat} (c : SortI T j xs) (hj : T.length ≤ j) (hx : xs.length = T.length) : xs = T := by
  have := c.same
  rwa [List.take_of_length_le (by omega), List.take_of_length_le hj] at this
theorem sort_here {T xs : List A} {j : Nat} {t : A} (c : SortI T j xs) (ht : T[j]? = some t) (hx : xs[j]? = some t) : SortI T (j + 1) xs := by
  obtain ⟨a, p⟩ := c
  rw [drop_cons ht, drop_cons hx] at p
  exact ⟨by rw [take_snoc ht, take_snoc hx, a], (List.perm_cons t).mp p⟩
theorem sort_move {T xs : List A} {j s : Nat} {t : A} (c : SortI T j xs) (ht : T[j]? = some t) (hs : xs[s]? = some t) (hj : j ≤ s) : SortI T (j + 1) (mov xs s j) := by
  obtain ⟨a, p⟩ := c
  have h : s < xs.length := (List.getElem?_eq_some_iff.mp hs).1
  obtain ⟨m1, m2⟩ := mov_parts (b := j) h (i := j) (by omega) (Nat.le_refl _) hj
  exact sort_here ⟨m1.trans a, m2.trans p⟩ ht ((mov_at h (by omega)).trans hs)
theorem sort_there {T xs : List A} {j : Nat} {t : A} (c : SortI T j xs) (ht : T[j]? = some t) : ∃ s, j ≤ s ∧ s < xs.length ∧ xs[s]? = some t := by
  refine get_of_mem_drop (c.perm.mem_iff.mpr ?_)
  exact mem_drop_of_get (Nat.le_refl _) ht

/-! ### settle -/
structure SetI (lt : A → A → Bool) (T : List A) (k f : Nat) (xs : List A) : Prop where
  k2 : 2 ≤ k
  len : xs.length = f + k + 1
  tlen : f + k + 1 ≤ T.length
  same : xs.take f = T.take f
  sub : ∀ v, v ∈ T.drop f → v ∈ xs.drop f
  up : nd lt (T.drop (f + 1)) ≤ k
theorem SetI.of_perm {T xs ys : List A} {k f : Nat} (c : SetI lt T k f xs) (h : ys.take f = xs.take f) (p : (ys.drop f).Perm (xs.drop f)) : SetI lt T k f ys := by
  obtain ⟨a, b, t, d, e, u⟩ := c
  have hl := p.length_eq
  rw [List.length_drop, List.length_drop] at hl
  refine ⟨a, by omega, t, h.trans d, fun v hv => p.mem_iff.mpr (e v hv), u⟩
theorem count_two {xs : List A} {f j : Nat} {x : A} (h1 : xs[f]? = some x) (hj : f < j) (h2 : xs[j]? = some x) : 2 ≤ (xs.drop f).count x := by
  rw [drop_cons h1, List.count_cons_self]
  have : 0 < (xs.drop (f + 1)).count x := List.count_pos_iff.mpr (mem_drop_of_get (by omega) h2)
  omega
theorem settle_end {T xs : List A} {k f : Nat} {t : A} (c : SetI lt T k f xs) (ht : T[f]? = some t) (hx : xs[f]? = some t) (h2 : t ∈ T.drop (f + 1) → 2 ≤ (xs.drop f).count t) : ClimbI T k xs := by
  have e : xs.length - k = f + 1 := by have := c.len; omega
  refine ⟨by have := c.len; have := c.tlen; omega, by rw [e, take_snoc ht, take_snoc hx, c.same], fun v hv => ?_⟩
  rw [e] at hv ⊢
  have hv2 := c.sub v (mem_drop_mono (Nat.le_succ _) hv)
  rw [drop_cons hx] at hv2
  rcases List.mem_cons.mp hv2 with q | q
  · subst q
    have := h2 hv
    rw [drop_cons hx, List.count_cons_self] at this
    exact List.count_pos_iff.mp (by omega)
  · exact q
theorem settle_move {T xs : List A} {k f s : Nat} {t : A} (c : SetI lt T k f xs) (ht : T[f]? = some t) (hs : xs[s]? = some t) (hf : f < s) (h2 : t ∈ T.drop (f + 1) → 2 ≤ (xs.drop f).count t) : ClimbI T k (mov xs s f) := by
  have h : s < xs.length := (List.getElem?_eq_some_iff.mp hs).1
  obtain ⟨m1, m2⟩ := mov_parts (b := f) h (i := f) (by omega) (Nat.le_refl _) (by omega)
  refine settle_end (c.of_perm m1 m2) ht ((mov_at h (by omega)).trans hs) fun hv => ?_
  rw [m2.count_eq]
  exact h2 hv
/-- double, first: the value isn't at the edge any more -/
theorem double_off {T xs : List A} {k f : Nat} {t : A} (c : SetI lt T k f xs) (h1 : (xs.drop f).count t = 1) (hx : xs[f]? = some t) :
    SetI lt T k f (exch xs f) ∧ ((exch xs f).drop f).count t = 1 ∧ (exch xs f)[f]? ≠ some t := by
  have hl := c.len
  have hk := c.k2
  obtain ⟨m1, m2⟩ := exch_parts (xs := xs) (i := f) (b := f) (by omega) (Nat.le_refl _)
  refine ⟨c.of_perm m1 m2, by rw [m2.count_eq]; exact h1, fun e => ?_⟩
  have a2 := (exch_at (xs := xs) (i := f) (by omega)).2
  rw [hx] at a2
  have := count_two e (j := xs.length - 1) (by omega) a2
  rw [m2.count_eq] at this
  omega
def Spare (T xs : List A) (f : Nat) (t : A) (i : Nat) : Prop := f < i ∧ ∃ x, xs[i]? = some x ∧ x ≠ t ∧ (x ∉ T.drop (f + 1) ∨ 1 < (xs.drop f).count x)
/-- .. where there is no spare cell above the floor, the edge's is one: it goes to the top -/
theorem double_none (o : Ord lt) {T xs : List A} {k f : Nat} {t : A} (c : SetI lt T k f xs) (ht : t ∈ T.drop (f + 1)) (h1 : (xs.drop f).count t = 1) (hx : xs[f]? ≠ some t) (hn : ∀ i, f < i → i < xs.length → ¬ Spare T xs f t i) :
    (∃ j x, f < j ∧ j < xs.length ∧ xs[j]? = some x ∧ x ≠ t) ∧ ∀ j x, f < j → j < xs.length → xs[j]? = some x → x ≠ t →
      SetI lt T k f (mov xs j f) ∧ ((mov xs j f).drop f).count t = 1 ∧ (mov xs j f)[f]? ≠ some t ∧ Spare T (mov xs j f) f t (xs.length - 1) := by
  have hl := c.len
  have hk := c.k2
  obtain ⟨e, he⟩ : ∃ e, xs[f]? = some e := ⟨xs[f]'(by omega), List.getElem?_eq_getElem _⟩
  have het : e ≠ t := fun q => hx (q ▸ he)
  have others : ∀ i x, f < i → xs[i]? = some x → x = t ∨ (x ∈ T.drop (f + 1) ∧ (xs.drop f).count x ≤ 1) := fun i x hi hxi => by
    by_cases q : x = t
    · exact .inl q
    · right
      have := hn i hi (List.getElem?_eq_some_iff.mp hxi).1
      constructor
      · by_cases z : x ∈ T.drop (f + 1)
        · exact z
        · exact absurd ⟨hi, x, hxi, q, .inl z⟩ this
      · by_cases z : 1 < (xs.drop f).count x
        · exact absurd ⟨hi, x, hxi, q, .inr z⟩ this
        · omega
  have hen : e ∉ T.drop (f + 1) := fun hin => by
    have nodup : (xs.drop f).Nodup := by
      rw [List.nodup_iff_count]
      intro z
      by_cases hz : z ∈ xs.drop f
      · obtain ⟨i, i1, i2, i3⟩ := get_of_mem_drop hz
        by_cases q : i = f
        · subst q
          rw [he] at i3; cases i3
          by_cases w : (xs.drop i).count e ≤ 1
          · exact w
          · exfalso
            rw [drop_cons he, List.count_cons_self] at w
            have hw : e ∈ xs.drop (i + 1) := List.count_pos_iff.mp (by omega)
            obtain ⟨j, j1, j2, j3⟩ := get_of_mem_drop hw
            rcases others j e (by omega) j3 with r | ⟨_, r⟩
            · exact het r
            · rw [drop_cons he, List.count_cons_self] at r
              omega
        · rcases others i z (by omega) i3 with r | ⟨_, r⟩
          · rw [r, h1]; exact Nat.le_refl _
          · exact r
      · rw [List.count_eq_zero_of_not_mem hz]; exact Nat.zero_le _
    have := nodup_nd o nodup (ys := T.drop (f + 1)) fun z hz => by
      obtain ⟨i, i1, i2, i3⟩ := get_of_mem_drop hz
      by_cases q : i = f
      · subst q
        rw [he] at i3; cases i3
        exact hin
      · rcases others i z (by omega) i3 with r | ⟨r, _⟩
        · rw [r]; exact ht
        · exact r
    rw [List.length_drop] at this
    have := c.up
    omega
  refine ⟨?_, fun j x hj hjl hjx hxt => ?_⟩
  · -- of the k cells above the floor one alone holds t
    by_cases q : ∃ j x, f < j ∧ j < xs.length ∧ xs[j]? = some x ∧ x ≠ t
    · exact q
    · exfalso
      have all : ∀ j, f < j → j < xs.length → xs[j]? = some t := fun j a b => by
        by_cases z : xs[j] = t
        · rw [List.getElem?_eq_getElem b, z]
        · exact absurd ⟨j, xs[j], a, b, List.getElem?_eq_getElem b, z⟩ q
      have c2 := count_two (xs := xs) (f := f + 1) (j := f + 2) (all (f + 1) (by omega) (by omega)) (by omega) (all (f + 2) (by omega) (by omega))
      rw [drop_cons he, List.count_cons_of_ne het] at h1
      omega
  · obtain ⟨m1, m2⟩ := mov_parts (b := f) hjl (i := f) (by omega) (Nat.le_refl _) (by omega)
    have h2 := mov_at (xs := xs) (s := j) (i := f) hjl (by omega)
    have h3 := mov_top (xs := xs) (s := j) (i := f) hjl (by omega) (by omega) (by omega)
    refine ⟨c.of_perm m1 m2, by rw [m2.count_eq]; exact h1, fun q => ?_, by omega, e, h3.trans he, het, .inl hen⟩
    rw [h2, hjx] at q
    cases q
    exact hxt rfl
/-- the spare cell's value is replaced by one more copy -/
theorem double_rep {T xs : List A} {k f i s : Nat} {t : A} (c : SetI lt T k f xs) (h1 : (xs.drop f).count t = 1) (ht : T[f]? = some t) (sp : Spare T xs f t i) (hs : xs[s]? = some t) :
    SetI lt T k f (rep xs i s) ∧ 2 ≤ ((rep xs i s).drop f).count t := by
  obtain ⟨hi, x, hx, hne, hor⟩ := sp
  have hil : i < xs.length := (List.getElem?_eq_some_iff.mp hx).1
  have p := rep_perm hx hs (Nat.le_of_lt hi)
  have cnt : ∀ z, ((rep xs i s).drop f).count z + (if x == z then 1 else 0) = (xs.drop f).count z + (if t == z then 1 else 0) := fun z => by
    have := p.count_eq z
    rw [List.count_cons, List.count_cons] at this
    exact this.symm
  have ct := cnt t
  rw [if_neg (by simpa using hne), if_pos (by simp), h1] at ct
  obtain ⟨a, b, tl, d, e, u⟩ := c
  refine ⟨⟨a, by rw [rep_len (List.getElem?_eq_some_iff.mp hs).1]; exact b, tl, by rw [rep_take hil (Nat.le_of_lt hi)]; exact d, fun v hv => ?_, u⟩, by omega⟩
  have h3 : 0 < (xs.drop f).count v := List.count_pos_iff.mpr (e v hv)
  have h4 := cnt v
  refine List.count_pos_iff.mp ?_
  by_cases q : x = v
  · subst q
    rw [if_pos (by simp)] at h4
    have hin : x ∈ T.drop (f + 1) := by
      rw [drop_cons ht] at hv
      rcases List.mem_cons.mp hv with z | z
      · exact absurd z hne
      · exact z
    rcases hor with z | z
    · exact absurd hin z
    · omega
  · rw [if_neg (by simpa using q)] at h4
    omega
/-- the value stands above the edge -/
theorem above_edge {xs : List A} {f : Nat} {t : A} (h1 : t ∈ xs.drop f) (hx : xs[f]? ≠ some t) : t ∈ xs.drop (f + 1) := by
  obtain ⟨i, a, b, c⟩ := get_of_mem_drop h1
  by_cases q : i = f
  · subst q; exact absurd c hx
  · exact mem_drop_of_get (by omega) c

/-! ### where rebuilt starts -/
theorem start_flat (o : Ord lt) {S T : List A} {k f : Nat} (F : Floor lt S T k f) (h : min S.length T.length ≤ k) : f = 0 ∧ ∀ v, v ∈ T → v ∈ S := by
  have h0 : f = 0 := by have := F.room; omega
  subst h0
  exact ⟨rfl, fun v hv => by simpa using F.sub v (by simpa using hv)⟩
theorem start_keep (o : Ord lt) {S T keep : List A} {k f : Nat} {e : A} (F : Floor lt S T k f) (h : k < min S.length T.length) (he : S[f]? = some e) (hk : keep = (T.drop f).filter fun v => !decide (v = e)) :
    nd lt keep ≤ k ∧ ∀ v, v ∈ keep → v ∈ S.drop (f + 1) := by
  constructor
  · refine Nat.le_trans ?_ F.edge
    refine nodup_sub_len (nodup_dist o keep) fun v hv => ?_
    have hv := mem_dist.mp hv
    rw [hk] at hv
    obtain ⟨v1, v2⟩ := List.mem_filter.mp hv
    unfold others
    rw [take1_drop, he]
    refine List.mem_filter.mpr ⟨mem_dist.mpr v1, ?_⟩
    simpa using v2
  · intro v hv
    rw [hk] at hv
    obtain ⟨v1, v2⟩ := List.mem_filter.mp hv
    have := F.sub v v1
    refine above_edge this ?_
    rw [he]
    intro q
    cases q
    simp at v2
theorem start_set (o : Ord lt) {S T keep xs : List A} {k f : Nat} {e : A} (F : Floor lt S T k f) (h : k < min S.length T.length) (h2 : 2 ≤ k) (he : S[f]? = some e) (hk : keep = (T.drop f).filter fun v => !decide (v = e))
    (hl : xs.length = f + k + 1) (htk : xs.take (f + 1) = S.take (f + 1)) (hs : ∀ v, v ∈ keep → v ∈ xs.drop (f + 1)) : SetI lt T k f xs := by
  refine ⟨h2, hl, by have := F.room; omega, (take_take_of_le (Nat.le_succ _) htk).trans F.same, fun v hv => ?_, F.up⟩
  have hx : xs[f]? = some e := (get_of_take (Nat.lt_succ_self _) htk).trans he
  by_cases q : v = e
  · rw [q]; exact mem_drop_of_get (Nat.le_refl _) hx
  · refine mem_drop_mono (Nat.le_succ _) (hs v ?_)
    rw [hk]
    exact List.mem_filter.mpr ⟨hv, by simpa using q⟩
end De
end
section
set_option Elab.async false
set_option linter.all false
set_option maxRecDepth 100000
set_option maxHeartbeats 2000000
/-! Tuples that are known to have no dict (tracked as they stand): the four makings; tuple.count. -/
namespace De
open PySem PySem.Spec PyProof.Rows L2
/-- an object without a dict, a tuple -/
def Bare (ob : Obj) : Prop := ob.dict = none ∧ ob.cls = .type "tuple"
def TupF (H : Hp) (a : Addr) (xs : List V) : Prop := ∃ ob, H a = some (.frz ob (.tup xs)) ∧ Bare ob
theorem TupF.sq {K : PySem.W.Frag} {H : Hp} {a : Addr} {xs : List V} (h : TupF H a xs) : SqT K H a xs := let ⟨ob, e, _⟩ := h; .inl (.inr ⟨ob, e⟩)
/-- a new one at any free place -/
def NewT (xs : List V) (H : Hp) (Q : VK) : Prop := ∀ p ob, Bare ob → H p = none → Q (.ref p) (upd H p (.frz ob (.tup xs)))
section
variable {X : Cx}
theorem newT_end {pins : List (Addr × Obj)} {σ : L2.St} {H : Hp} {s : Shared} {xs : List V} {its : List Value} {Q : VK} (I : Inv X pins σ H s) (r : Vals xs its) (hz : xs.length ≤ sizeLine) (q : NewT xs H Q) :
    EP X pins σ Q (.ref s.heap.objs.size) { s with heap := s.heap.push { cls := .type "tuple", data := .seq its.toArray } } := by
  refine ⟨.ref s.heap.objs.size, _, I.laid (t' := s.toks) (o := .frz { cls := .type "tuple", data := .seq its.toArray } (.tup xs)) (fun b ob q => Heap.get?_push_of_some _ q) (Nat.le_refl _) ?_, rfl, q _ _ ⟨rfl, rfl⟩ (I.hok.fresh (Nat.le_refl _))⟩
  exact ⟨Heap.get?_push_size _ rfl, hz, its, r, IsTup.new _ _⟩
def tTupF (t : TA) : TE := fun σ H Q => t σ H fun xs H1 => xs.length ≤ sizeLine ∧ NewT xs H1 Q
theorem pe_tupF {es : List Expr} {t : TA} {x1 pos} (h : PA X es t) : PE X (.Tuple es x1 pos) (tTupF t) := by
  refine ⟨fun pins s σ H Q I hq => ?_⟩
  refine wpAny_Tuple_spliced (thn (h.run pos pins s σ H _ I hq) fun us s1 ⟨xs, H1, I1, r, z, q⟩ => ⟨by rw [← r.length]; exact z, ?_⟩)
  exact newT_end I1 r z q
def rSlF (K : PySem.W.Frag) : V → Option Int → Option Int → Hp → VK → Prop := fun x lo hi H Q => ∃ a xs, x = .ref a ∧ SqT K H a xs ∧
  (HT.sIx xs.length 0 lo = 0 ∧ HT.sIx xs.length xs.length hi = xs.length → Q (.ref a) H) ∧ (¬ (HT.sIx xs.length 0 lo = 0 ∧ HT.sIx xs.length xs.length hi = xs.length) → NewT (cutV xs lo hi) H Q)
theorem sl_tupF : SlR X (rSlF X.K) := by
  intro pins s σ H x v vl vu lo hi sl Q I rx hs pl pu h
  obtain ⟨a, xs, rfl, hx, q1, q2⟩ := h
  by_cases hw : HT.sIx xs.length 0 lo = 0 ∧ HT.sIx xs.length xs.length hi = xs.length
  · cases rx
    obtain ⟨its, r, ht, hz⟩ := I.tuple hx
    have hlen : its.toArray.size = xs.length := by rw [List.size_toArray]; exact r.length.symm
    refine ⟨"tuple", _, PyProof.Rows.slot_tuple_getitem.lookup, ht.typeIs, ?_⟩
    exact L2.getItem_tuple_whole ht hs pl pu (by rw [hlen]; exact hw) ⟨.ref a, H, I, rfl, q1 hw⟩
  · cases rx
    obtain ⟨its, r, ht, hz⟩ := I.tuple hx
    have hlen : its.toArray.size = xs.length := by rw [List.size_toArray]; exact r.length.symm
    refine ⟨"tuple", _, PyProof.Rows.slot_tuple_getitem.lookup, ht.typeIs, ?_⟩
    refine HT.getItem_tuple_cut ht hs pl pu (by rw [hlen]; exact hw) ?_ (by rw [hlen]; exact hz)
    rw [hlen]
    exact newT_end I ((r.drop (HT.sIx xs.length 0 lo)).take (HT.sIx xs.length xs.length hi - HT.sIx xs.length 0 lo)) (Nat.le_trans (cutV_length xs lo hi) hz) (q2 hw)
def rCatF (K : PySem.W.Frag) : R2 := fun x y H Q => ∃ a b xs ys, x = .ref a ∧ y = .ref b ∧ SqT K H a xs ∧ SqT K H b ys ∧ xs.length + ys.length ≤ sizeLine ∧
  (xs = [] → Q (.ref b) H) ∧ (xs ≠ [] → ys = [] → Q (.ref a) H) ∧ (xs ≠ [] → ys ≠ [] → NewT (xs ++ ys) H Q)
theorem op_catF : OpR X (binaryOp .Add) (rCatF X.K) := by
  intro pins s σ H x y v u Q I rx ry h
  obtain ⟨a, b, xs, ys, rfl, rfl, ha, hb, hz, q0, q1, q2⟩ := h
  cases rx
  cases ry
  obtain ⟨its, r1, p1, _⟩ := I.tuple ha
  obtain ⟨its2, r2, p2, _⟩ := I.tuple hb
  by_cases hx : xs = []
  · subst hx
    cases r1
    exact L2.cat_tup0 p1 p2 ⟨.ref b, H, I, rfl, q0 rfl⟩
  · refine HT.cat_tup p1 p2 (fun z => hx (r1.nil_iff.mp z)) (fun z => ⟨.ref a, H, I, rfl, q1 hx (r2.nil_iff.mp z)⟩) (fun z => ?_) (by rw [← r1.length, ← r2.length]; exact hz)
    exact newT_end I (r1.append r2) (by rw [List.length_append]; exact hz) (q2 hx fun w => z (r2.nil_iff.mpr w))
def rTupF (K : PySem.W.Frag) : List V → Hp → VK → Prop := fun xs H Q => ∃ p ys, xs = [.ref p] ∧ ((SqL K H p ys ∧ NewT ys H Q) ∨ (SqT K H p ys ∧ Q (.ref p) H))
theorem call_tupF : CallR X (.type "tuple") (rTupF X.K) := by
  intro pins s σ H xs us Q I r h
  obtain ⟨p, ys, rfl, h⟩ := h
  obtain ⟨u, rfl, rx⟩ := vals1 r
  cases rx
  rcases h with ⟨hq, q⟩ | ⟨hq, q⟩
  · obtain ⟨its, r', pl, hz⟩ := I.list hq
    have hlen := r'.length
    refine call_tuple_list pl.isList (fun h' kp => ?_) (by simp only [List.size_toArray] <;> omega)
    have I1 : Inv X pins σ H { s with heap := h' } := I.kept (t' := s.toks) kp
    exact newT_end I1 r' hz q
  · obtain ⟨its, r', pl, hz⟩ := I.tuple hq
    exact call_tuple_same pl ⟨.ref p, H, I, rfl, q⟩
/-- t.m(e, ..), t a tuple without a dict -/
def tBMT (r : V → List V → Hp → VK → Prop) (to : TE) (t : TA) : TE := fun σ H Q => to σ H fun x H1 => (∃ a xs, x = .ref a ∧ TupF H1 a xs) ∧ t σ H1 fun vs H2 => r x vs H2 Q
theorem pe_bmT {o e : Expr} {es : List Expr} {to : TE} {t : TA} {name : Str} {apos cpos : Pos} {id : String} {r : V → List V → Hp → VK → Prop} (slot : Slot "tuple" name id) (hty : typeOf (.builtin id) = pure (.type "method_descriptor")) (hm : MtR X id r) (ho : PE X o to) (ha : PA X (e :: es) t)
    (hbase : attributeBase o name X.env (eval o X.env) = eval o X.env := by rfl)
    (hfew : ((backTo cpos (starEach (e :: es) X.env)).all (fun x => !x.1) && (backToKw cpos (keywordEach [] X.env)).all (fun x => x.1.isSome)
      && decide ((e :: es).length + ([] : List Keyword).length + (if ([] : List Keyword).isEmpty then 0 else 1) < 30)) = true := by rfl)
    (hline : (apos.endLine == cpos.line) = true := by rfl) (hs : starEach (e :: es) X.env = (false, eval e X.env) :: starEach es X.env := by rfl) (hplain : (backTo cpos (starEach es X.env)).any (·.1) = false := by rfl) :
    PE X (.Call (.Attribute o name apos) (e :: es) [] cpos) (tBMT r to t) := by
  refine ⟨fun pins s σ H Q I h => ?_⟩
  refine wpAny_Call_method_late hbase hfew hline rfl (thn (ho.run pins s σ H _ I h) fun v s1 ⟨x, H1, I1, r1, ⟨a, xs, ex, ob, ea, hb1, hb2⟩, q1⟩ => ?_)
  subst ex
  obtain rfl : v = Value.ref a := r1
  obtain ⟨e1, _⟩ := (show ObjOk X.prog X.w H1 s1.heap a (.frz ob (.tup xs)) from I1.hok a _ ea)
  refine ⟨"tuple", id, PySem.F.plainAttrs_tuple, slot, hty, ⟨ob, e1, hb2⟩, fun b hb => ?_, ?_⟩
  · cases hb
    exact ⟨ob, e1, hb1⟩
  have hA := ha.run cpos pins s1 σ H1 _ I1 q1
  rw [hs] at hA ⊢
  refine Calls.callWith_builtin (by show (false || (backTo cpos (starEach es X.env)).any (·.1)) = false; rw [hplain] <;> rfl) (Calls.evalArgs_plain ?_)
  exact thn hA fun us s2 ⟨vs, H2, I2, r2, q2⟩ => hm pins s2 σ H2 (.ref a) vs _ us Q I2 (show RelV (.ref a) (Value.ref a) from rfl) r2 q2
end
end De
end
section
set_option Elab.async false
set_option linter.all false
set_option maxRecDepth 100000
set_option maxHeartbeats 2000000
/-! A layer of our own over HandS: what a reading does, told of data (Sl) and of the few objects that change (Mus), the heap hidden. -/
namespace De
open PySem L2

/-- what is known of a value: nothing; the data it stands for; the very value -/
inductive Sl where
  | no
  | da (d : PyData)
  | va (v : V)
/-- what is known of an object that may change -/
inductive Mu where
  | obj (o : HO)
  | lis (ws : List Sl)
abbrev Mus := List (Addr × Mu)
section
variable {K : PySem.W.Frag} {B B' H H' : Hp}
theorem same_t {a : Addr} {xs : List V} (e : Same B B') (h : SqT K B a xs) : SqT K B' a xs := Evl.ex_t e h
theorem same_l {a : Addr} {xs : List V} (e : Same B B') (h : SqL K B a xs) : SqL K B' a xs := Evl.ex_l e h
theorem same_tf {a : Addr} {xs : List V} (e : Same B B') (h : TupF B a xs) : TupF B' a xs := let ⟨ob, q, b⟩ := h; ⟨ob, e _ _ q, b⟩
mutual
/-- data whose tuples have no dict -/
inductive Dp (K : PySem.W.Frag) (H : Hp) : V → PyData → Prop
  | non : Dp K H .non .none
  | bl (b : Bool) : Dp K H (.bl b) (.bool b)
  | int (i : Int) : Dp K H (.int i) (.int i)
  | str (x : Str) : Dp K H (.str x) (.str x)
  | lst {a : Addr} {xs : List V} {ds : List PyData} : SqL K H a xs → DpAll K H xs ds → Dp K H (.ref a) (.list ds)
  | tup {a : Addr} {xs : List V} {ds : List PyData} : TupF H a xs → DpAll K H xs ds → Dp K H (.ref a) (.tuple ds)
inductive DpAll (K : PySem.W.Frag) (H : Hp) : List V → List PyData → Prop
  | nil : DpAll K H [] []
  | cons {v : V} {vs : List V} {d : PyData} {ds : List PyData} : Dp K H v d → DpAll K H vs ds → DpAll K H (v :: vs) (d :: ds)
end
mutual
theorem dp_out : ∀ {v : V} {d : PyData}, Dp K B v d → L2.Dp K B v d
  | _, _, .non => .non
  | _, _, .bl b => .bl b
  | _, _, .int i => .int i
  | _, _, .str x => .str x
  | _, _, .lst h a => .lst h (dpAll_out a)
  | _, _, .tup h a => .tup h.sq (dpAll_out a)
theorem dpAll_out : ∀ {vs : List V} {ds : List PyData}, DpAll K B vs ds → L2.DpAll K B vs ds
  | _, _, .nil => .nil
  | _, _, .cons h a => .cons (dp_out h) (dpAll_out a)
end
mutual
theorem dp_same (e : Same B B') : ∀ {v : V} {d : PyData}, Dp K B v d → Dp K B' v d
  | _, _, .non => .non
  | _, _, .bl b => .bl b
  | _, _, .int i => .int i
  | _, _, .str x => .str x
  | _, _, .lst h a => .lst (same_l e h) (dpAll_same e a)
  | _, _, .tup h a => .tup (same_tf e h) (dpAll_same e a)
theorem dpAll_same (e : Same B B') : ∀ {vs : List V} {ds : List PyData}, DpAll K B vs ds → DpAll K B' vs ds
  | _, _, .nil => .nil
  | _, _, .cons h a => .cons (dp_same e h) (dpAll_same e a)
end
def Rl (K : PySem.W.Frag) (B : Hp) (v : V) : Sl → Prop
  | .no => True
  | .da d => Dp K B v d
  | .va u => v = u
theorem rl_same (e : Same B B') {v : V} : ∀ {w : Sl}, Rl K B v w → Rl K B' v w
  | .no, _ => trivial
  | .da _, h => dp_same e h
  | .va _, h => h
inductive RlAll (K : PySem.W.Frag) (B : Hp) : List V → List Sl → Prop
  | nil : RlAll K B [] []
  | cons {v vs w ws} : Rl K B v w → RlAll K B vs ws → RlAll K B (v :: vs) (w :: ws)
theorem rlAll_same (e : Same B B') : ∀ {vs : List V} {ws : List Sl}, RlAll K B vs ws → RlAll K B' vs ws
  | _, _, .nil => .nil
  | _, _, .cons h a => .cons (rl_same e h) (rlAll_same e a)
theorem RlAll.len : ∀ {vs : List V} {ws : List Sl}, RlAll K B vs ws → vs.length = ws.length
  | _, _, .nil => rfl
  | _, _, .cons _ a => by rw [List.length_cons, List.length_cons, a.len]
theorem RlAll.snoc : ∀ {vs : List V} {ws : List Sl} {v : V} {w : Sl}, RlAll K B vs ws → Rl K B v w → RlAll K B (vs ++ [v]) (ws ++ [w])
  | _, _, _, _, .nil, h => .cons h .nil
  | _, _, _, _, .cons g a, h => .cons g (a.snoc h)
theorem RlAll.get : ∀ {vs : List V} {ws : List Sl} {i : Nat} {w : Sl}, RlAll K B vs ws → ws[i]? = some w → ∃ v, vs[i]? = some v ∧ Rl K B v w
  | _, _, _, _, .nil, h => by simp at h
  | _, _, 0, _, .cons g a, h => by simp at h; subst h; exact ⟨_, rfl, g⟩
  | _, _, i + 1, _, .cons g a, h => by
    obtain ⟨v, h1, h2⟩ := a.get (i := i) (by simpa using h)
    exact ⟨v, by simpa using h1, h2⟩
theorem RlAll.set : ∀ {vs : List V} {ws : List Sl} {i : Nat} {v : V} {w : Sl}, RlAll K B vs ws → Rl K B v w → RlAll K B (vs.set i v) (ws.set i w)
  | _, _, _, _, _, .nil, _ => .nil
  | _, _, 0, _, _, .cons g a, h => .cons h a
  | _, _, i + 1, _, _, .cons g a, h => .cons g (a.set h)
theorem DpAll.len : ∀ {vs : List V} {ds : List PyData}, DpAll K B vs ds → vs.length = ds.length
  | _, _, .nil => rfl
  | _, _, .cons _ a => by rw [List.length_cons, List.length_cons, DpAll.len a]
theorem rlAll_da : ∀ {vs : List V} {ds : List PyData}, RlAll K B vs (ds.map Sl.da) ↔ DpAll K B vs ds
  | [], [] => ⟨fun _ => .nil, fun _ => .nil⟩
  | [], d :: ds => ⟨fun h => (by cases h), fun h => (by cases h)⟩
  | v :: vs, [] => ⟨fun h => (by cases h), fun h => (by cases h)⟩
  | v :: vs, d :: ds => ⟨fun h => match h with | .cons a b => .cons a (rlAll_da.mp b), fun h => match h with | .cons a b => .cons a (rlAll_da.mpr b)⟩
theorem DpAll.get {vs : List V} {ds : List PyData} {i : Nat} {d : PyData} (h : DpAll K B vs ds) (e : ds[i]? = some d) : ∃ v, vs[i]? = some v ∧ Dp K B v d := by
  have := (rlAll_da.mpr h).get (i := i) (w := .da d) (by rw [List.getElem?_map, e]; rfl)
  exact this
theorem DpAll.get' {vs : List V} {ds : List PyData} {i : Nat} {v : V} (h : DpAll K B vs ds) (e : vs[i]? = some v) : ∃ d, ds[i]? = some d ∧ Dp K B v d := by
  have hl := DpAll.len h
  have hi := (List.getElem?_eq_some_iff.mp e).1
  obtain ⟨v', h1, h2⟩ := DpAll.get h (i := i) (d := ds[i]'(by omega)) (List.getElem?_eq_getElem _)
  rw [e] at h1; cases h1
  exact ⟨_, List.getElem?_eq_getElem _, h2⟩
theorem DpAll.take : ∀ {vs : List V} {ds : List PyData} (n : Nat), DpAll K B vs ds → DpAll K B (vs.take n) (ds.take n)
  | _, _, 0, _ => by simpa using DpAll.nil
  | _, _, n + 1, .nil => .nil
  | _, _, n + 1, .cons h a => .cons h (DpAll.take n a)
theorem DpAll.drop : ∀ {vs : List V} {ds : List PyData} (n : Nat), DpAll K B vs ds → DpAll K B (vs.drop n) (ds.drop n)
  | _, _, 0, h => h
  | _, _, n + 1, .nil => .nil
  | _, _, n + 1, .cons h a => DpAll.drop n a
theorem DpAll.append : ∀ {vs us : List V} {ds es : List PyData}, DpAll K B vs ds → DpAll K B us es → DpAll K B (vs ++ us) (ds ++ es)
  | _, _, _, _, .nil, h => h
  | _, _, _, _, .cons g a, h => .cons g (DpAll.append a h)
def MuAt (K : PySem.W.Frag) (B H : Hp) (a : Addr) : Mu → Prop
  | .obj o => H a = some o
  | .lis ws => ∃ vs, H a = some (.lst vs) ∧ RlAll K B vs ws
theorem muAt_some {a : Addr} : ∀ {m : Mu}, MuAt K B H a m → ∃ o, H a = some o
  | .obj o, h => ⟨o, h⟩
  | .lis ws, h => let ⟨vs, e, _⟩ := h; ⟨_, e⟩
theorem muAt_same (e : Same B B') {a : Addr} (hH : H' a = H a) : ∀ {m : Mu}, MuAt K B H a m → MuAt K B' H' a m
  | .obj o, h => hH.trans h
  | .lis ws, h => let ⟨vs, q, r⟩ := h; ⟨vs, hH.trans q, rlAll_same e r⟩
end
def SlotOk (K : PySem.W.Frag) (B : Hp) (o : Option (Option V)) : Sl → Prop
  | .no => True
  | .da d => ∃ v, o = some (some v) ∧ Dp K B v d
  | .va u => o = some (some u)
/-- a def's entry: the heap, its part that never changes, the objects that the def may change -/
structure Gr where
  H0 : Hp
  B0 : Hp
  ms : List Addr
/-- a state within a def: the slots, the objects that change -/
structure Cta (K : PySem.W.Frag) (g : Gr) (δ : List Sl) (μ : Mus) (σ : L2.St) (H B : Hp) : Prop where
  b0 : Same g.B0 B
  bh : Same B H
  bf : ∀ b o, g.H0 b = some o → B b = g.B0 b
  kp : ∀ b o, g.H0 b = some o → b ∉ g.ms → H b = some o
  th : ∀ b o, g.H0 b = some o → H b ≠ none
  ln : σ.length = δ.length
  sl : ∀ (i : Nat) (w : Sl), δ[i]? = some w → SlotOk K B (σ[i]?) w
  mu : ∀ q, q ∈ μ → MuAt K B H q.1 q.2 ∧ B q.1 = none ∧ (g.H0 q.1 = none ∨ q.1 ∈ g.ms)
  nd : (μ.map (·.1)).Nodup
section
variable {K : PySem.W.Frag} {g : Gr} {δ : List Sl} {μ : Mus} {σ : L2.St} {H B : Hp}
theorem Cta.free (c : Cta K g δ μ σ H B) {p : Addr} (h : H p = none) : B p = none := by
  cases q : B p with
  | none => rfl
  | some o => rw [c.bh p o q] at h; cases h
theorem same_new {H : Hp} {p : Addr} {o : HO} (h : H p = none) : Same H (upd H p o) := fun b x e => by
  rw [upd_ne (ne_of_none e h)]
  exact e
theorem slot_same {B B' : Hp} (e : Same B B') {o : Option (Option V)} : ∀ {w : Sl}, SlotOk K B o w → SlotOk K B' o w
  | .no, _ => trivial
  | .da d, h => let ⟨v, a, b⟩ := h; ⟨v, a, dp_same e b⟩
  | .va u, h => h
/-- a new object that stays as it is -/
theorem Cta.new (c : Cta K g δ μ σ H B) {p : Addr} {o : HO} (h : H p = none) : Cta K g δ μ σ (upd H p o) (upd B p o) ∧ Same B (upd B p o) := by
  have hb := c.free h
  have s := same_new (o := o) hb
  refine ⟨⟨fun b x e => s b x (c.b0 b x e), fun b x e => ?_, fun b x e => ?_, fun b x e n => ?_, fun b x e => ?_, c.ln, fun i w e => slot_same s (c.sl i w e), fun q hq => ?_, c.nd⟩, s⟩
  · by_cases z : b = p
    · subst z; rw [upd_same] at e ⊢; exact e
    · rw [upd_ne z] at e ⊢; exact c.bh b x e
  · have z : b ≠ p := fun z => c.th b x e (z ▸ h)
    rw [upd_ne z]; exact c.bf b x e
  · have z : b ≠ p := fun z => c.th b x e (z ▸ h)
    rw [upd_ne z]; exact c.kp b x e n
  · by_cases z : b = p
    · subst z; rw [upd_same]; exact fun q => by cases q
    · rw [upd_ne z]; exact c.th b x e
  · obtain ⟨m1, m2, m3⟩ := c.mu q hq
    obtain ⟨u, hu⟩ := muAt_some m1
    have z : q.1 ≠ p := ne_of_none hu h
    exact ⟨muAt_same s (upd_ne z) m1, by rw [upd_ne z]; exact m2, m3⟩
/-- a new object that may change -/
theorem Cta.newM (c : Cta K g δ μ σ H B) {p : Addr} {o : HO} {m : Mu} (h : H p = none) (hm : MuAt K B (upd H p o) p m) : Cta K g δ (μ ++ [(p, m)]) σ (upd H p o) B := by
  have hb := c.free h
  have g0 : g.H0 p = none := by
    cases q : g.H0 p with
    | none => rfl
    | some u => exact absurd h (c.th p u q)
  refine ⟨c.b0, fun b x e => ?_, c.bf, fun b x e n => ?_, fun b x e => ?_, c.ln, c.sl, fun q hq => ?_, ?_⟩
  · rw [upd_ne (ne_of_none e hb)]; exact c.bh b x e
  · have z : b ≠ p := fun z => c.th b x e (z ▸ h)
    rw [upd_ne z]; exact c.kp b x e n
  · by_cases z : b = p
    · subst z; rw [upd_same]; exact fun q => by cases q
    · rw [upd_ne z]; exact c.th b x e
  · rcases List.mem_append.mp hq with hq | hq
    · obtain ⟨m1, m2, m3⟩ := c.mu q hq
      obtain ⟨u, hu⟩ := muAt_some m1
      have z : q.1 ≠ p := ne_of_none hu h
      exact ⟨muAt_same (fun _ _ e => e) (upd_ne z) m1, m2, m3⟩
    · rw [List.mem_singleton.mp hq]
      exact ⟨hm, hb, .inl g0⟩
  · rw [List.map_append, List.nodup_append]
    refine ⟨c.nd, by simp, fun a ha b hb' => ?_⟩
    rw [List.mem_singleton.mp hb']
    obtain ⟨q, hq, rfl⟩ := List.mem_map.mp ha
    obtain ⟨u, hu⟩ := muAt_some (c.mu q hq).1
    exact ne_of_none hu h
theorem get_addr {μ : Mus} {j : Nat} {q : Addr × Mu} (h : μ[j]? = some q) : q ∈ μ := List.mem_of_getElem? h
/-- an object changes -/
theorem Cta.write (c : Cta K g δ μ σ H B) {j : Nat} {a : Addr} {m m' : Mu} {o : HO} (hj : μ[j]? = some (a, m)) (hm : MuAt K B (upd H a o) a m') : Cta K g δ (μ.set j (a, m')) σ (upd H a o) B := by
  obtain ⟨m1, m2, m3⟩ := c.mu _ (get_addr hj)
  obtain ⟨u, hu⟩ := muAt_some m1
  have hjl := (List.getElem?_eq_some_iff.mp hj).1
  have nds : ((μ.set j (a, m')).map (·.1)) = μ.map (·.1) := by
    rw [List.map_set]
    have : (μ.map (·.1))[j]? = some a := by rw [List.getElem?_map, hj]; rfl
    obtain ⟨q1, q2⟩ := List.getElem?_eq_some_iff.mp this
    show (μ.map (·.1)).set j a = _
    rw [← q2]
    exact List.set_getElem_self _
  refine ⟨c.b0, fun b x e => ?_, c.bf, fun b x e n => ?_, fun b x e => ?_, c.ln, c.sl, fun q hq => ?_, by rw [nds]; exact c.nd⟩
  · have z : b ≠ a := fun z => by subst z; rw [m2] at e; cases e
    rw [upd_ne z]; exact c.bh b x e
  · have z : b ≠ a := fun z => by
      subst z
      rcases m3 with z | z
      · rw [z] at e; cases e
      · exact n z
    rw [upd_ne z]; exact c.kp b x e n
  · by_cases z : b = a
    · subst z; rw [upd_same]; exact fun q => by cases q
    · rw [upd_ne z]; exact c.th b x e
  · obtain ⟨i, hi, e⟩ := List.mem_iff_getElem.mp hq
    rw [List.length_set] at hi
    by_cases z : i = j
    · subst z
      rw [List.getElem_set_self] at e
      subst e
      exact ⟨hm, m2, m3⟩
    · rw [List.getElem_set_ne (Ne.symm z)] at e
      have hq' : q ∈ μ := e ▸ List.getElem_mem _
      obtain ⟨n1, n2, n3⟩ := c.mu q hq'
      have ne : q.1 ≠ a := fun w => by
        have h1 : (μ.map (·.1))[i]? = some q.1 := by rw [List.getElem?_map, List.getElem?_eq_getElem hi, e]; rfl
        have h2 : (μ.map (·.1))[j]? = some a := by rw [List.getElem?_map, hj]; rfl
        rw [w] at h1
        exact z (nd_ix c.nd h1 h2)
      exact ⟨muAt_same (fun _ _ e => e) (upd_ne ne) n1, n2, n3⟩
theorem Cta.store (c : Cta K g δ μ σ H B) {i : Nat} {v : V} {w : Sl} (h : Rl K B v w) : Cta K g (δ.set i w) μ (σ.set i (some v)) H B := by
  refine ⟨c.b0, c.bh, c.bf, c.kp, c.th, by rw [List.length_set, List.length_set, c.ln], fun j x e => ?_, c.mu, c.nd⟩
  by_cases z : i = j
  · subst z
    by_cases hi : i < δ.length
    · rw [List.getElem?_set_self hi] at e
      cases e
      rw [List.getElem?_set_self (by rw [c.ln]; exact hi)]
      cases w with
      | no => trivial
      | da d => exact ⟨v, rfl, h⟩
      | va u => exact congrArg (fun t => some (some t)) h
    · rw [List.getElem?_eq_none (by simpa using hi)] at e; cases e
  · rw [List.getElem?_set_ne z] at e ⊢
    exact c.sl j x e
theorem Cta.sub (c : Cta K g δ μ σ H B) {δ' : List Sl} {μ' : Mus} (hd : δ'.length = δ.length) (h1 : ∀ (i : Nat) (w : Sl), δ'[i]? = some w → w = .no ∨ δ[i]? = some w) (h2 : ∀ q, q ∈ μ' → q ∈ μ) (h3 : (μ'.map (·.1)).Nodup) : Cta K g δ' μ' σ H B :=
  ⟨c.b0, c.bh, c.bf, c.kp, c.th, by rw [hd]; exact c.ln, fun i w e => by
    rcases h1 i w e with z | z
    · subst z; trivial
    · exact c.sl i w z, fun q hq => c.mu q (h2 q hq), h3⟩
end

/-! ### the judgements -/
/-- what follows an expression -/
def Cont (K : PySem.W.Frag) (g : Gr) (δ : List Sl) (σ : L2.St) (B : Hp) (k : Sl → Mus → Prop) (Q : VK) : Prop :=
  ∀ w μ' v H' B', k w μ' → Cta K g δ μ' σ H' B' → Same B B' → Rl K B' v w → Q v H'
def ContB (K : PySem.W.Frag) (g : Gr) (δ : List Sl) (σ : L2.St) (B : Hp) (k : Bool → Mus → Prop) (Q : Bool → Hp → Prop) : Prop :=
  ∀ b μ' H' B', k b μ' → Cta K g δ μ' σ H' B' → Same B B' → Q b H'
def ContA (K : PySem.W.Frag) (g : Gr) (δ : List Sl) (σ : L2.St) (B : Hp) (k : List Sl → Mus → Prop) (Q : List V → Hp → Prop) : Prop :=
  ∀ ws μ' vs H' B', k ws μ' → Cta K g δ μ' σ H' B' → Same B B' → RlAll K B' vs ws → Q vs H'
section
variable (K : PySem.W.Frag) (g : Gr) (δ : List Sl)
def Ev (μ : Mus) (te : TE) (k : Sl → Mus → Prop) : Prop := ∀ σ H B, Cta K g δ μ σ H B → ∀ Q, Cont K g δ σ B k Q → te σ H Q
def EvB (μ : Mus) (tt : TT) (k : Bool → Mus → Prop) : Prop := ∀ σ H B, Cta K g δ μ σ H B → ∀ Q, ContB K g δ σ B k Q → tt σ H Q
def EvA (μ : Mus) (ta : TA) (k : List Sl → Mus → Prop) : Prop := ∀ σ H B, Cta K g δ μ σ H B → ∀ Q, ContA K g δ σ B k Q → ta σ H Q
def Op2 (r : R2) (w1 w2 : Sl) (μ : Mus) (k : Sl → Mus → Prop) : Prop := ∀ σ H B, Cta K g δ μ σ H B → ∀ v1 v2, Rl K B v1 w1 → Rl K B v2 w2 → ∀ Q, Cont K g δ σ B k Q → r v1 v2 H Q
def Op1 (r : V → Hp → VK → Prop) (w : Sl) (μ : Mus) (k : Sl → Mus → Prop) : Prop := ∀ σ H B, Cta K g δ μ σ H B → ∀ v, Rl K B v w → ∀ Q, Cont K g δ σ B k Q → r v H Q
def OpC (r : List V → Hp → VK → Prop) (ws : List Sl) (μ : Mus) (k : Sl → Mus → Prop) : Prop := ∀ σ H B, Cta K g δ μ σ H B → ∀ vs, RlAll K B vs ws → ∀ Q, Cont K g δ σ B k Q → r vs H Q
def OpM (r : V → List V → Hp → VK → Prop) (w : Sl) (ws : List Sl) (μ : Mus) (k : Sl → Mus → Prop) : Prop := ∀ σ H B, Cta K g δ μ σ H B → ∀ v vs, Rl K B v w → RlAll K B vs ws → ∀ Q, Cont K g δ σ B k Q → r v vs H Q
/-- what follows a statement -/
structure AE where
  nx : List Sl → Mus → Prop
  rt : Sl → Mus → Prop
  bk : List Sl → Mus → Prop := fun _ _ => False
  ct : List Sl → Mus → Prop := fun _ _ => False
structure Fits (F : AE) (D : Ends) (B : Hp) : Prop where
  nx : ∀ δ' μ' σ' H' B', F.nx δ' μ' → Cta K g δ' μ' σ' H' B' → Same B B' → D.nx σ' H'
  rt : ∀ w μ' δ' σ' v H' B', F.rt w μ' → Cta K g δ' μ' σ' H' B' → Same B B' → Rl K B' v w → D.rt v H'
  bk : ∀ δ' μ' σ' H' B', F.bk δ' μ' → Cta K g δ' μ' σ' H' B' → Same B B' → D.bk σ' H'
  ct : ∀ δ' μ' σ' H' B', F.ct δ' μ' → Cta K g δ' μ' σ' H' B' → Same B B' → D.ct σ' H'
def Go (μ : Mus) (t : TS) (F : AE) : Prop := ∀ σ H B, Cta K g δ μ σ H B → ∀ D, Fits K g F D B → t D σ H
end

/-! ### small data -/
abbrev dI (i : Int) : Sl := .da (.int i)
abbrev dB (b : Bool) : Sl := .da (.bool b)
abbrev dS (s : Str) : Sl := .da (.str s)
abbrev dN : Sl := .da .none
abbrev dT (ds : List PyData) : Sl := .da (.tuple ds)
abbrev dL (ds : List PyData) : Sl := .da (.list ds)
abbrev tS (xs : List Str) : PyData := .tuple (xs.map PyData.str)
abbrev lS (xs : List Str) : PyData := .list (xs.map PyData.str)
@[reducible] def sv : V → Sl
  | .non => dN
  | .bl b => dB b
  | .int i => dI i
  | .str s => dS s
  | v => .va v
theorem rl_sv {K : PySem.W.Frag} {B : Hp} (v : V) : Rl K B v (sv v) := by
  cases v with
  | non => exact .non
  | bl b => exact .bl b
  | int i => exact .int i
  | str s => exact .str s
  | byt _ => rfl
  | flt _ => rfl
  | ref _ => rfl
  | ty _ => rfl
theorem dp_int {K : PySem.W.Frag} {B : Hp} {v : V} {i : Int} (h : Rl K B v (dI i)) : v = .int i := by cases h; rfl
theorem dp_str {K : PySem.W.Frag} {B : Hp} {v : V} {s : Str} (h : Rl K B v (dS s)) : v = .str s := by cases h; rfl
theorem dp_bool {K : PySem.W.Frag} {B : Hp} {v : V} {b : Bool} (h : Rl K B v (dB b)) : v = .bl b := by cases h; rfl
theorem dp_none {K : PySem.W.Frag} {B : Hp} {v : V} (h : Rl K B v dN) : v = .non := by cases h; rfl
theorem dp_tup {K : PySem.W.Frag} {B : Hp} {v : V} {ds : List PyData} (h : Rl K B v (dT ds)) : ∃ a xs, v = .ref a ∧ SqT K B a xs ∧ DpAll K B xs ds := by
  cases h with
  | tup h a => exact ⟨_, _, rfl, h.sq, a⟩
theorem dp_tupF {K : PySem.W.Frag} {B : Hp} {v : V} {ds : List PyData} (h : Rl K B v (dT ds)) : ∃ a xs, v = .ref a ∧ TupF B a xs ∧ DpAll K B xs ds := by
  cases h with
  | tup h a => exact ⟨_, _, rfl, h, a⟩
theorem dp_lst {K : PySem.W.Frag} {B : Hp} {v : V} {ds : List PyData} (h : Rl K B v (dL ds)) : ∃ a xs, v = .ref a ∧ SqL K B a xs ∧ DpAll K B xs ds := by
  cases h with
  | lst h a => exact ⟨_, _, rfl, h, a⟩

/-! ### expressions -/
section
variable {K : PySem.W.Frag} {g : Gr} {δ : List Sl} {μ : Mus} {k : Sl → Mus → Prop} {kb : Bool → Mus → Prop} {ka : List Sl → Mus → Prop} {te ta tb tc : TE} {tt tu : TT} {tas : TA}
theorem Cont.go {σ : L2.St} {H B : Hp} {Q : VK} {w : Sl} {v : V} (q : Cont K g δ σ B k Q) (c : Cta K g δ μ σ H B) (h : k w μ) (r : Rl K B v w) : Q v H := q w μ v H B h c (fun _ _ e => e) r
theorem Cont.mono {σ : L2.St} {B B' : Hp} {Q : VK} (q : Cont K g δ σ B k Q) (e : Same B B') : Cont K g δ σ B' k Q := fun w μ' v H' B2 h c s r => q w μ' v H' B2 h c (e.trans s) r
theorem ev_da {i : Nat} {d : PyData} (h : δ[i]? = some (.da d)) (q : k (.da d) μ) : Ev K g δ μ (tVar i) k := fun σ H B c Q hq => by
  obtain ⟨v, e, r⟩ := c.sl i _ h
  exact ⟨v, e, hq.go c q r⟩
theorem ev_va {i : Nat} {v : V} (h : δ[i]? = some (.va v)) (q : k (.va v) μ) : Ev K g δ μ (tVar i) k := fun σ H B c Q hq => by
  have e := c.sl i _ h
  exact ⟨v, e, hq.go c q rfl⟩
theorem ev_c {v : V} (q : k (sv v) μ) : Ev K g δ μ (tC v) k := fun σ H B c Q hq => hq.go c q (rl_sv v)
theorem ev_op {r : R2} (h : Ev K g δ μ ta fun w1 μ1 => Ev K g δ μ1 tb fun w2 μ2 => Op2 K g δ r w1 w2 μ2 k) : Ev K g δ μ (tOp r ta tb) k := fun σ H B c Q hq =>
  h σ H B c _ fun w1 μ1 v1 H1 B1 h1 c1 s1 r1 => h1 σ H1 B1 c1 _ fun w2 μ2 v2 H2 B2 h2 c2 s2 r2 => h2 σ H2 B2 c2 v1 v2 (rl_same s2 r1) r2 Q (hq.mono (s1.trans s2))
theorem ev_un {r : V → Hp → VK → Prop} (h : Ev K g δ μ ta fun w1 μ1 => Op1 K g δ r w1 μ1 k) : Ev K g δ μ (tUn r ta) k := fun σ H B c Q hq =>
  h σ H B c _ fun w1 μ1 v1 H1 B1 h1 c1 s1 r1 => h1 σ H1 B1 c1 v1 r1 Q (hq.mono s1)
theorem ea_nil (q : ka [] μ) : EvA K g δ μ tNil ka := fun σ H B c Q hq => hq [] μ [] H B q c (fun _ _ e => e) .nil
theorem ea_cons (h : Ev K g δ μ te fun w μ1 => EvA K g δ μ1 tas fun ws μ2 => ka (w :: ws) μ2) : EvA K g δ μ (tCons te tas) ka := fun σ H B c Q hq =>
  h σ H B c _ fun w μ1 v H1 B1 h1 c1 s1 r1 => h1 σ H1 B1 c1 _ fun ws μ2 vs H2 B2 h2 c2 s2 r2 => hq (w :: ws) μ2 (v :: vs) H2 B2 h2 c2 (s1.trans s2) (.cons (rl_same s2 r1) r2)
theorem ev_cb {r : List V → Hp → VK → Prop} (h : EvA K g δ μ tas fun ws μ1 => OpC K g δ r ws μ1 k) : Ev K g δ μ (tCB r tas) k := fun σ H B c Q hq =>
  h σ H B c _ fun ws μ1 vs H1 B1 h1 c1 s1 r1 => h1 σ H1 B1 c1 vs r1 Q (hq.mono s1)
/-- a new tuple of data -/
theorem ev_tup (h : EvA K g δ μ tas fun ws μ1 => ∃ ds, ws = ds.map Sl.da ∧ ds.length ≤ sizeLine ∧ k (dT ds) μ1) : Ev K g δ μ (tTupF tas) k := fun σ H B c Q hq =>
  h σ H B c _ fun ws μ1 vs H1 B1 h1 c1 s1 r1 => by
    obtain ⟨ds, e, hl, hk⟩ := h1
    subst e
    have r2 := rlAll_da.mp r1
    refine ⟨by rw [DpAll.len r2]; exact hl, fun p ob hb hp => ?_⟩
    obtain ⟨c2, s2⟩ := c1.new (o := .frz ob (.tup vs)) hp
    exact hq _ _ _ _ _ hk c2 (s1.trans s2) (.tup ⟨ob, upd_same, hb⟩ (dpAll_same s2 r2))
/-- a new list of data that stays as it is -/
theorem ev_lst (h : EvA K g δ μ tas fun ws μ1 => ∃ ds, ws = ds.map Sl.da ∧ ds.length ≤ sizeLine ∧ k (dL ds) μ1) : Ev K g δ μ (tLst tas) k := fun σ H B c Q hq =>
  h σ H B c _ fun ws μ1 vs H1 B1 h1 c1 s1 r1 => by
    obtain ⟨ds, e, hl, hk⟩ := h1
    subst e
    have r2 := rlAll_da.mp r1
    refine ⟨by rw [DpAll.len r2]; exact hl, fun p hp => ?_⟩
    obtain ⟨c2, s2⟩ := c1.new (o := .lst vs) hp
    exact hq _ _ _ _ _ hk c2 (s1.trans s2) (.lst (.inl (.inl upd_same)) (dpAll_same s2 r2))
/-- a new list that may change -/
theorem ev_lstM (h : EvA K g δ μ tas fun ws μ1 => ws.length ≤ sizeLine ∧ ∀ p, k (.va (.ref p)) (μ1 ++ [(p, .lis ws)])) : Ev K g δ μ (tLst tas) k := fun σ H B c Q hq =>
  h σ H B c _ fun ws μ1 vs H1 B1 h1 c1 s1 r1 => by
    obtain ⟨hl, hk⟩ := h1
    refine ⟨by rw [r1.len]; exact hl, fun p hp => ?_⟩
    have c2 := c1.newM (o := .lst vs) (m := .lis ws) hp ⟨vs, upd_same, r1⟩
    exact hq _ _ _ _ _ (hk p) c2 s1 rfl
/-- tests -/
theorem eb_test (h : Ev K g δ μ te fun w μ1 => ∃ b, w = dB b ∧ kb b μ1) : EvB K g δ μ (tTest te) kb := fun σ H B c Q hq =>
  h σ H B c _ fun w μ1 v H1 B1 h1 c1 s1 r1 => by
    obtain ⟨b, e, hk⟩ := h1
    subst e
    exact ⟨b, dp_bool r1, hq b μ1 H1 B1 hk c1 s1⟩
theorem eb_B (h : Ev K g δ μ te fun w μ1 => ∃ b, w = dB b ∧ kb b μ1) : EvB K g δ μ (tB te) kb := eb_test h
theorem ContB.mono {σ : L2.St} {B B' : Hp} {Q : Bool → Hp → Prop} (q : ContB K g δ σ B kb Q) (e : Same B B') : ContB K g δ σ B' kb Q := fun b μ' H' B2 h c s => q b μ' H' B2 h c (e.trans s)
theorem eb_and (h : EvB K g δ μ tt fun b μ1 => (b = true → EvB K g δ μ1 tu kb) ∧ (b = false → kb false μ1)) : EvB K g δ μ (tAnd tt tu) kb := fun σ H B c Q hq =>
  h σ H B c _ fun b μ1 H1 B1 h1 c1 s1 => by
    cases b with
    | true => exact h1.1 rfl σ H1 B1 c1 Q (hq.mono s1)
    | false => exact hq false μ1 H1 B1 (h1.2 rfl) c1 s1
theorem eb_or (h : EvB K g δ μ tt fun b μ1 => (b = false → EvB K g δ μ1 tu kb) ∧ (b = true → kb true μ1)) : EvB K g δ μ (tOr tt tu) kb := fun σ H B c Q hq =>
  h σ H B c _ fun b μ1 H1 B1 h1 c1 s1 => by
    cases b with
    | false => exact h1.1 rfl σ H1 B1 c1 Q (hq.mono s1)
    | true => exact hq true μ1 H1 B1 (h1.2 rfl) c1 s1
theorem eb_not (h : EvB K g δ μ tt fun b μ1 => kb (!b) μ1) : EvB K g δ μ (tNot tt) kb := fun σ H B c Q hq =>
  h σ H B c _ fun b μ1 H1 B1 h1 c1 s1 => hq (!b) μ1 H1 B1 h1 c1 s1
theorem ev_andV (h : Ev K g δ μ ta fun w μ1 => ∃ b, w = dB b ∧ (b = true → Ev K g δ μ1 tb k) ∧ (b = false → k (dB false) μ1)) : Ev K g δ μ (tAndV ta tb) k := fun σ H B c Q hq =>
  h σ H B c _ fun w μ1 v H1 B1 h1 c1 s1 r1 => by
    obtain ⟨b, e, h1, h2⟩ := h1
    subst e
    refine ⟨b, dp_bool r1, ?_⟩
    cases b with
    | true => exact h1 rfl σ H1 B1 c1 Q (hq.mono s1)
    | false => exact hq.mono s1 |>.go c1 (h2 rfl) (.bl false)
theorem ev_orV (h : Ev K g δ μ ta fun w μ1 => ∃ b, w = dB b ∧ (b = false → Ev K g δ μ1 tb k) ∧ (b = true → k (dB true) μ1)) : Ev K g δ μ (tOrV ta tb) k := fun σ H B c Q hq =>
  h σ H B c _ fun w μ1 v H1 B1 h1 c1 s1 r1 => by
    obtain ⟨b, e, h1, h2⟩ := h1
    subst e
    refine ⟨b, dp_bool r1, ?_⟩
    cases b with
    | false => exact h1 rfl σ H1 B1 c1 Q (hq.mono s1)
    | true => exact hq.mono s1 |>.go c1 (h2 rfl) (.bl true)
theorem ev_notV (h : Ev K g δ μ ta fun w μ1 => ∃ b, w = dB b ∧ k (dB (!b)) μ1) : Ev K g δ μ (tNotV ta) k := fun σ H B c Q hq =>
  h σ H B c _ fun w μ1 v H1 B1 h1 c1 s1 r1 => by
    obtain ⟨b, e, h1⟩ := h1
    subst e
    exact ⟨b, dp_bool r1, hq.mono s1 |>.go c1 h1 (.bl _)⟩
theorem ev_if (h : EvB K g δ μ tt fun b μ1 => (b = true → Ev K g δ μ1 ta k) ∧ (b = false → Ev K g δ μ1 tb k)) : Ev K g δ μ (tIf tt ta tb) k := fun σ H B c Q hq =>
  h σ H B c _ fun b μ1 H1 B1 h1 c1 s1 => by
    cases b with
    | true => exact h1.1 rfl σ H1 B1 c1 Q (hq.mono s1)
    | false => exact h1.2 rfl σ H1 B1 c1 Q (hq.mono s1)
/-- weaken what follows -/
theorem Ev.imp {k' : Sl → Mus → Prop} (h : Ev K g δ μ te k) (hk : ∀ w μ', k w μ' → k' w μ') : Ev K g δ μ te k' := fun σ H B c Q hq => h σ H B c Q fun w μ' v H' B' x => hq w μ' v H' B' (hk w μ' x)

/-! ### operators -/
theorem o_I0 {f : Int → Int → V} {i j : Int} (q : k (sv (f i j)) μ) : Op2 K g δ (rI0 f) (dI i) (dI j) μ k := fun σ H B c v1 v2 r1 r2 Q hq => ⟨i, j, dp_int r1, dp_int r2, hq.go c q (rl_sv _)⟩
theorem o_I {C : Int → Int → Prop} {f : Int → Int → V} {i j : Int} (hc : C i j) (q : k (sv (f i j)) μ) : Op2 K g δ (rI C f) (dI i) (dI j) μ k := fun σ H B c v1 v2 r1 r2 Q hq => ⟨i, j, dp_int r1, dp_int r2, hc, hq.go c q (rl_sv _)⟩
theorem o_U {f : Int → V} {i : Int} (q : k (sv (f i)) μ) : Op1 K g δ (rU f) (dI i) μ k := fun σ H B c v1 r1 Q hq => ⟨i, dp_int r1, hq.go c q (rl_sv _)⟩
theorem o_eqD {d e : PyData} (h1 : SeqAt.shaped d = true) (h2 : SeqAt.shaped e = true) (q : k (dB (PyData.eqv d e)) μ) : Op2 K g δ (rEqD K) (.da d) (.da e) μ k :=
  fun σ H B c v1 v2 r1 r2 Q hq => ⟨d, e, dp_out (dp_same c.bh r1), dp_out (dp_same c.bh r2), h1, h2, hq.go c q (.bl _)⟩
theorem o_neD {d e : PyData} (h1 : SeqAt.shaped d = true) (h2 : SeqAt.shaped e = true) (q : k (dB (!PyData.eqv d e)) μ) : Op2 K g δ (rNeD K) (.da d) (.da e) μ k :=
  fun σ H B c v1 v2 r1 r2 Q hq => ⟨d, e, dp_out (dp_same c.bh r1), dp_out (dp_same c.bh r2), h1, h2, hq.go c q (.bl _)⟩
theorem scal_of {K : PySem.W.Frag} {B : Hp} {x y : V} {d e : PyData} : True := trivial
end
end De
end
section
set_option Elab.async false
set_option linter.all false
set_option maxRecDepth 100000
set_option maxHeartbeats 2000000
/-! The layer's rules for containers, calls, statements, loops, comprehensions. -/
namespace De
open PySem L2

/-! ### containers -/
section
variable {K : PySem.W.Frag} {g : Gr} {δ : List Sl} {μ : Mus} {k : Sl → Mus → Prop} {kb : Bool → Mus → Prop} {ka : List Sl → Mus → Prop} {te ta tb tc : TE} {tt tu : TT} {tas : TA}

theorem sz_ok {n : Nat} (h : n ≤ 100000) : n ≤ sizeLine := Nat.le_trans h (by decide)
theorem sz_lt {n : Nat} (h : n < 100000) : n < sizeLine := Nat.lt_of_lt_of_le h (by decide)
theorem oc_len_t {ds : List PyData} (q : k (dI ds.length) μ) : OpC K g δ (Evl.rLenS K) [dT ds] μ k := fun σ H B c vs r Q hq => by
  cases r with
  | cons a b =>
    cases b
    obtain ⟨p, xs, rfl, h1, h2⟩ := dp_tup a
    refine ⟨p, xs, rfl, .inr (same_t c.bh h1), ?_⟩
    rw [DpAll.len h2]
    exact hq.go c q (.int _)
theorem oc_len_l {ds : List PyData} (q : k (dI ds.length) μ) : OpC K g δ (Evl.rLenS K) [dL ds] μ k := fun σ H B c vs r Q hq => by
  cases r with
  | cons a b =>
    cases b
    obtain ⟨p, xs, rfl, h1, h2⟩ := dp_lst a
    refine ⟨p, xs, rfl, .inl (same_l c.bh h1), ?_⟩
    rw [DpAll.len h2]
    exact hq.go c q (.int _)
theorem Cta.lis {σ : L2.St} {H B : Hp} (c : Cta K g δ μ σ H B) {j : Nat} {a : Addr} {ws : List Sl} (h : μ[j]? = some (a, .lis ws)) : ∃ vs, H a = some (.lst vs) ∧ RlAll K B vs ws := (c.mu _ (get_addr h)).1
theorem oc_len_m {j : Nat} {a : Addr} {ws : List Sl} (h : μ[j]? = some (a, .lis ws)) (q : k (dI ws.length) μ) : OpC K g δ (Evl.rLenS K) [.va (.ref a)] μ k := fun σ H B c vs r Q hq => by
  cases r with
  | cons a1 b =>
    cases b
    cases (show _ = _ from a1)
    obtain ⟨xs, h1, h2⟩ := c.lis h
    refine ⟨a, xs, rfl, .inl (SqL.of h1), ?_⟩
    rw [h2.len]
    exact hq.go c q (.int _)

/-! ### in -/
def flatD : PyData → Bool
  | .none => true | .bool _ => true | .int _ => true | .str _ => true | _ => false
theorem eqV_str {a b : Str} : eqV (.str a) (.str b) = decide (a = b) := by
  unfold eqV
  first | rfl | simp | (by_cases e : a = b <;> simp [e])
theorem inV_str {s : Str} : ∀ {xs : List V} {ss : List Str}, DpAll K B xs (ss.map PyData.str) → inV (.str s) xs = decide (s ∈ ss) ∧ xs.all flatV = true
  | _, [], .nil => by simp [inV]
  | _, t :: ss, .cons h a => by
    cases h
    obtain ⟨h1, h2⟩ := inV_str (s := s) a
    unfold inV at h1 ⊢
    rw [List.any_cons, h1, eqV_str, List.all_cons, h2]
    refine ⟨?_, rfl⟩
    by_cases e : t = s
    · subst e; simp
    · simp [e, Ne.symm e]
theorem o_in {neg : Bool} {s : Str} {ss : List Str} (q : k (dB (if neg then !decide (s ∈ ss) else decide (s ∈ ss))) μ) : Op2 K g δ (rIn K neg) (dS s) (.da (tS ss)) μ k := fun σ H B c v1 v2 r1 r2 Q hq => by
  obtain ⟨p, xs, rfl, h1, h2⟩ := dp_tup r2
  obtain ⟨e1, e2⟩ := inV_str (s := s) h2
  cases dp_str r1
  refine ⟨p, xs, rfl, .inr (same_t c.bh h1), rfl, e2, ?_⟩
  rw [e1]
  exact hq.go c q (.bl _)
theorem o_inL {neg : Bool} {s : Str} {ss : List Str} (q : k (dB (if neg then !decide (s ∈ ss) else decide (s ∈ ss))) μ) : Op2 K g δ (rIn K neg) (dS s) (.da (lS ss)) μ k := fun σ H B c v1 v2 r1 r2 Q hq => by
  obtain ⟨p, xs, rfl, h1, h2⟩ := dp_lst r2
  obtain ⟨e1, e2⟩ := inV_str (s := s) h2
  cases dp_str r1
  refine ⟨p, xs, rfl, .inl (same_l c.bh h1), rfl, e2, ?_⟩
  rw [e1]
  exact hq.go c q (.bl _)
theorem rlAll_str {ss : List Str} {vs : List V} (r : RlAll K B vs (ss.map dS)) : DpAll K B vs (ss.map PyData.str) := by
  have : ss.map dS = (ss.map PyData.str).map Sl.da := by rw [List.map_map]; rfl
  rw [this] at r
  exact rlAll_da.mp r
theorem o_inM {neg : Bool} {s : Str} {ss : List Str} {j : Nat} {a : Addr} (h : μ[j]? = some (a, .lis (ss.map dS))) (q : k (dB (if neg then !decide (s ∈ ss) else decide (s ∈ ss))) μ) : Op2 K g δ (rIn K neg) (dS s) (.va (.ref a)) μ k := fun σ H B c v1 v2 r1 r2 Q hq => by
  cases (show v2 = _ from r2)
  obtain ⟨xs, h1, h2⟩ := c.lis h
  obtain ⟨e1, e2⟩ := inV_str (s := s) (rlAll_str h2)
  cases dp_str r1
  refine ⟨a, xs, rfl, .inl (SqL.of h1), rfl, e2, ?_⟩
  rw [e1]
  exact hq.go c q (.bl _)

/-! ### items -/
theorem dp_atI {xs : List V} {ds : List PyData} {i : Int} {d : PyData} (h : DpAll K B xs ds) (e : atI ds i = some d) : ∃ v, atI xs i = some v ∧ Dp K B v d := by
  unfold atI at e ⊢
  rw [DpAll.len h]
  cases q : ixN ds.length i with
  | none => rw [q] at e; cases e
  | some j =>
    rw [q] at e
    exact DpAll.get h e
theorem o_ixT {ds : List PyData} {i : Int} {d : PyData} (e : atI ds i = some d) (q : k (.da d) μ) : Op2 K g δ (rIx K) (dT ds) (dI i) μ k := fun σ H B c v1 v2 r1 r2 Q hq => by
  obtain ⟨p, xs, rfl, h1, h2⟩ := dp_tup r1
  obtain ⟨v, e1, e2⟩ := dp_atI h2 e
  exact .inr (.inl ⟨p, xs, i, v, rfl, dp_int r2, same_t c.bh h1, e1, hq.go c q e2⟩)
theorem o_ixL {ds : List PyData} {i : Int} {d : PyData} (e : atI ds i = some d) (q : k (.da d) μ) : Op2 K g δ (rIx K) (dL ds) (dI i) μ k := fun σ H B c v1 v2 r1 r2 Q hq => by
  obtain ⟨p, xs, rfl, h1, h2⟩ := dp_lst r1
  obtain ⟨v, e1, e2⟩ := dp_atI h2 e
  exact .inl ⟨p, xs, i, v, rfl, dp_int r2, same_l c.bh h1, e1, hq.go c q e2⟩
theorem o_ixM {ws : List Sl} {i : Int} {w : Sl} {j : Nat} {a : Addr} (h : μ[j]? = some (a, .lis ws)) (e : atI ws i = some w) (q : k w μ) : Op2 K g δ (rIx K) (.va (.ref a)) (dI i) μ k := fun σ H B c v1 v2 r1 r2 Q hq => by
  cases (show v1 = _ from r1)
  obtain ⟨xs, h1, h2⟩ := c.lis h
  have : ∃ v, atI xs i = some v ∧ Rl K B v w := by
    unfold atI at e ⊢
    rw [h2.len]
    cases q : ixN ws.length i with
    | none => rw [q] at e; cases e
    | some j =>
      rw [q] at e
      exact h2.get e
  obtain ⟨v, e1, e2⟩ := this
  exact .inl ⟨a, xs, i, v, rfl, dp_int r2, SqL.of h1, e1, hq.go c q e2⟩
theorem atI_ofNat {α : Type} {xs : List α} {i : Int} {n : Nat} {x : α} (e : i = n) (h : xs[n]? = some x) : atI xs i = some x := by
  rw [e]; exact atI_nat h

/-! ### slices -/
def cutD {α : Type} (xs : List α) (lo hi : Option Int) : List α := (xs.drop (HT.sIx xs.length 0 lo)).take (HT.sIx xs.length xs.length hi - HT.sIx xs.length 0 lo)
def OpSl (K : PySem.W.Frag) (g : Gr) (δ : List Sl) (r : V → Option Int → Option Int → Hp → VK → Prop) (w : Sl) (lo hi : Option Int) (μ : Mus) (k : Sl → Mus → Prop) : Prop := ∀ σ H B, Cta K g δ μ σ H B → ∀ v, Rl K B v w → ∀ Q, Cont K g δ σ B k Q → r v lo hi H Q
def EvO (K : PySem.W.Frag) (g : Gr) (δ : List Sl) (μ : Mus) (to : TO) (ko : Option Int → Mus → Prop) : Prop := ∀ σ H B, Cta K g δ μ σ H B → ∀ Q, (∀ o μ' H' B', ko o μ' → Cta K g δ μ' σ H' B' → Same B B' → Q o H') → to σ H Q
theorem eo_no {ko : Option Int → Mus → Prop} (q : ko none μ) : EvO K g δ μ tNoPart ko := fun σ H B c Q hq => hq none μ H B q c fun _ _ e => e
theorem eo_some {ko : Option Int → Mus → Prop} (h : Ev K g δ μ te fun w μ1 => ∃ i, w = dI i ∧ ko (some i) μ1) : EvO K g δ μ (tPart te) ko := fun σ H B c Q hq =>
  h σ H B c _ fun w μ1 v H1 B1 h1 c1 s1 r1 => by
    obtain ⟨i, e, hk⟩ := h1
    subst e
    exact ⟨i, dp_int r1, hq _ _ _ _ hk c1 s1⟩
theorem ev_sl {r : V → Option Int → Option Int → Hp → VK → Prop} {tl th : TO} (h : Ev K g δ μ te fun w μ1 => EvO K g δ μ1 tl fun lo μ2 => EvO K g δ μ2 th fun hi μ3 => OpSl K g δ r w lo hi μ3 k) : Ev K g δ μ (tSl r te tl th) k := fun σ H B c Q hq =>
  h σ H B c _ fun w μ1 v H1 B1 h1 c1 s1 r1 => h1 σ H1 B1 c1 _ fun lo μ2 H2 B2 h2 c2 s2 => h2 σ H2 B2 c2 _ fun hi μ3 H3 B3 h3 c3 s3 => h3 σ H3 B3 c3 v (rl_same s3 (rl_same s2 r1)) Q (hq.mono (s1.trans (s2.trans s3)))
theorem dp_cut {xs : List V} {ds : List PyData} {lo hi : Option Int} (h : DpAll K B xs ds) : DpAll K B (cutV xs lo hi) (cutD ds lo hi) := by
  unfold cutV cutD
  rw [DpAll.len h]
  exact DpAll.take _ (DpAll.drop _ h)
theorem os_tup {ds : List PyData} {lo hi : Option Int} (q : k (dT (cutD ds lo hi)) μ) : OpSl K g δ (rSlF K) (dT ds) lo hi μ k := fun σ H B c v r Q hq => by
  obtain ⟨p, xs, rfl, h1, h2⟩ := dp_tupF r
  refine ⟨p, xs, rfl, same_t c.bh h1.sq, fun e => ?_, fun _ a ob hb ha => ?_⟩
  · refine hq.go c q (.tup h1 ?_)
    have : cutV xs lo hi = xs := by
      unfold cutV
      rw [e.1, e.2]
      simp
    rw [← this]
    exact dp_cut h2
  · obtain ⟨c2, s2⟩ := c.new (o := .frz ob (.tup (cutV xs lo hi))) ha
    exact hq _ _ _ _ _ q c2 s2 (.tup ⟨ob, upd_same, hb⟩ (dpAll_same s2 (dp_cut h2)))
theorem os_lst {ds : List PyData} {lo hi : Option Int} (q : k (dL (cutD ds lo hi)) μ) : OpSl K g δ (rSlL K) (dL ds) lo hi μ k := fun σ H B c v r Q hq => by
  obtain ⟨p, xs, rfl, h1, h2⟩ := dp_lst r
  refine ⟨p, xs, rfl, same_l c.bh h1, fun a ha => ?_⟩
  obtain ⟨c2, s2⟩ := c.new (o := .lst (cutV xs lo hi)) ha
  exact hq _ _ _ _ _ q c2 s2 (.lst (.inl (.inl upd_same)) (dpAll_same s2 (dp_cut h2)))
theorem os_lstM {ds : List PyData} {lo hi : Option Int} {j : Nat} {a : Addr} (h : μ[j]? = some (a, .lis (ds.map Sl.da))) (q : k (dL (cutD ds lo hi)) μ) : OpSl K g δ (rSlL K) (.va (.ref a)) lo hi μ k := fun σ H B c v r Q hq => by
  cases (show v = _ from r)
  obtain ⟨xs, h1, h2⟩ := c.lis h
  refine ⟨a, xs, rfl, SqL.of h1, fun p hp => ?_⟩
  obtain ⟨c2, s2⟩ := c.new (o := .lst (cutV xs lo hi)) hp
  exact hq _ _ _ _ _ q c2 s2 (.lst (.inl (.inl upd_same)) (dpAll_same s2 (dp_cut (rlAll_da.mp h2))))
theorem cut_map {α β : Type} (f : α → β) (xs : List α) (lo hi : Option Int) : cutD (xs.map f) lo hi = (cutD xs lo hi).map f := by
  unfold cutD
  rw [List.length_map, List.map_take, List.map_drop]
theorem cut_from {α : Type} (xs : List α) (n : Nat) : cutD xs (some (n : Int)) none = xs.drop n := by
  unfold cutD
  rw [HT.sIx_nat, HT.sIx_none]
  by_cases h : n ≤ xs.length
  · rw [Nat.min_eq_left h]
    exact List.take_of_length_le (by rw [List.length_drop]; exact Nat.le_refl _)
  · rw [Nat.min_eq_right (by omega), List.drop_eq_nil_of_le (Nat.le_refl _), List.drop_eq_nil_of_le (by omega)]
    simp
theorem cut_to {α : Type} (xs : List α) (n : Nat) : cutD xs none (some (n : Int)) = xs.take n := by
  unfold cutD
  rw [HT.sIx_nat, HT.sIx_none, List.drop_zero, Nat.sub_zero]
  by_cases h : n ≤ xs.length
  · rw [Nat.min_eq_left h]
  · rw [Nat.min_eq_right (by omega), List.take_of_length_le (Nat.le_refl _), List.take_of_length_le (by omega)]
theorem cut_mid {α : Type} (xs : List α) (a b : Nat) : cutD xs (some (a : Int)) (some (b : Int)) = (xs.take b).drop a := by
  unfold cutD
  rw [HT.sIx_nat, HT.sIx_nat]
  apply List.ext_getElem?
  intro i
  simp only [List.getElem?_take, List.getElem?_drop]
  by_cases hx : a + i < xs.length ∧ a + i < b
  · rw [Nat.min_eq_left (show a ≤ xs.length by omega), if_pos (by omega), if_pos hx.2]
  · by_cases h2 : a + i < b
    · rw [if_pos h2, List.getElem?_eq_none (show xs.length ≤ a + i by omega)]
      split
      · rw [List.getElem?_eq_none (by omega)]
      · rfl
    · rw [if_neg h2]
      split
      · rw [List.getElem?_eq_none (by omega)]
      · rfl
theorem cut_one {α : Type} (xs : List α) (a : Nat) : cutD xs (some (a : Int)) (some ((a + 1 : Nat) : Int)) = (xs.drop a).take 1 := by
  rw [cut_mid]
  rw [List.drop_take]
  congr 1
  omega

/-! ### + of tuples -/
theorem o_cat {ds es : List PyData} (hz : ds.length + es.length ≤ sizeLine) (q : k (dT (ds ++ es)) μ) : Op2 K g δ (rCatF K) (dT ds) (dT es) μ k := fun σ H B c v1 v2 r1 r2 Q hq => by
  obtain ⟨p, xs, rfl, h1, h2⟩ := dp_tupF r1
  obtain ⟨p2, ys, rfl, h3, h4⟩ := dp_tupF r2
  refine ⟨p, p2, xs, ys, rfl, rfl, same_t c.bh h1.sq, same_t c.bh h3.sq, by rw [DpAll.len h2, DpAll.len h4]; exact hz, fun e => ?_, fun _ e => ?_, fun _ _ a ob hb ha => ?_⟩
  · subst e
    cases h2
    exact hq.go c q (.tup h3 h4)
  · subst e
    cases h4
    rw [List.append_nil] at q
    exact hq.go c q (.tup h1 h2)
  · obtain ⟨c2, s2⟩ := c.new (o := .frz ob (.tup (xs ++ ys))) ha
    exact hq _ _ _ _ _ q c2 s2 (.tup ⟨ob, upd_same, hb⟩ (dpAll_same s2 (DpAll.append h2 h4)))
/-! ### list(..), tuple(..) -/
theorem call_listS {X : Cx} : CallR X (.type "list") (Evl.rListS X.K) := call_list_of
theorem call_lenS {X : Cx} : CallR X (.builtin "len") (Evl.rLenS X.K) := call_len_seq
theorem oc_tup_l {ds : List PyData} (q : k (dT ds) μ) : OpC K g δ (rTupF K) [dL ds] μ k := fun σ H B c vs r Q hq => by
  cases r with
  | cons a b =>
    cases b
    obtain ⟨p, xs, rfl, h1, h2⟩ := dp_lst a
    refine ⟨p, xs, rfl, .inl ⟨same_l c.bh h1, fun l ob hb hl => ?_⟩⟩
    obtain ⟨c2, s2⟩ := c.new (o := .frz ob (.tup xs)) hl
    exact hq _ _ _ _ _ q c2 s2 (.tup ⟨ob, upd_same, hb⟩ (dpAll_same s2 h2))
theorem oc_tup_m {ds : List PyData} {j : Nat} {a : Addr} (h : μ[j]? = some (a, .lis (ds.map Sl.da))) (q : k (dT ds) μ) : OpC K g δ (rTupF K) [.va (.ref a)] μ k := fun σ H B c vs r Q hq => by
  cases r with
  | cons a1 b =>
    cases b
    cases (show _ = _ from a1)
    obtain ⟨xs, h1, h2⟩ := c.lis h
    refine ⟨a, xs, rfl, .inl ⟨SqL.of h1, fun l ob hb hl => ?_⟩⟩
    obtain ⟨c2, s2⟩ := c.new (o := .frz ob (.tup xs)) hl
    exact hq _ _ _ _ _ q c2 s2 (.tup ⟨ob, upd_same, hb⟩ (dpAll_same s2 (rlAll_da.mp h2)))
/-- list(t): a new list that may change -/
theorem oc_list_t {ds : List PyData} (q : ∀ p, k (.va (.ref p)) (μ ++ [(p, .lis (ds.map Sl.da))])) : OpC K g δ (Evl.rListS K) [dT ds] μ k := fun σ H B c vs r Q hq => by
  cases r with
  | cons a b =>
    cases b
    obtain ⟨p, xs, rfl, h1, h2⟩ := dp_tup a
    refine ⟨p, xs, rfl, .inr (same_t c.bh h1), fun l hl => ?_⟩
    exact hq _ _ _ _ _ (q l) (c.newM hl ⟨xs, upd_same, rlAll_da.mpr h2⟩) (fun _ _ e => e) rfl
theorem oc_list_l {ds : List PyData} (q : ∀ p, k (.va (.ref p)) (μ ++ [(p, .lis (ds.map Sl.da))])) : OpC K g δ (Evl.rListS K) [dL ds] μ k := fun σ H B c vs r Q hq => by
  cases r with
  | cons a b =>
    cases b
    obtain ⟨p, xs, rfl, h1, h2⟩ := dp_lst a
    refine ⟨p, xs, rfl, .inl (same_l c.bh h1), fun l hl => ?_⟩
    exact hq _ _ _ _ _ (q l) (c.newM hl ⟨xs, upd_same, rlAll_da.mpr h2⟩) (fun _ _ e => e) rfl
/-- a new thing is not changed any more: it is data from here on -/
theorem Cta.freeze {σ : L2.St} {H B : Hp} {p : Addr} {ds : List PyData} (c : Cta K g δ (μ ++ [(p, .lis (ds.map Sl.da))]) σ H B) (hm : ∀ x, x ∈ g.ms → x ∈ μ.map (·.1)) :
    ∃ B', Cta K g δ μ σ H B' ∧ Same B B' ∧ Rl K B' (.ref p) (dL ds) := by
  obtain ⟨m1, m2, m3⟩ := c.mu (p, .lis (ds.map Sl.da)) (List.mem_append_right _ List.mem_cons_self)
  obtain ⟨vs, h1, h2⟩ := m1
  have nd := c.nd
  rw [List.map_append, List.nodup_append] at nd
  obtain ⟨n1, _, n2⟩ := nd
  have hp0 : g.H0 p = none := by
    rcases m3 with z | z
    · exact z
    · exact absurd rfl (n2 p (hm p z) p (by simp))
  have s : Same B (upd B p (.lst vs)) := same_new m2
  refine ⟨upd B p (.lst vs), ⟨fun b x e => s b x (c.b0 b x e), fun b x e => ?_, fun b x e => ?_, c.kp, c.th, c.ln, fun i w e => slot_same s (c.sl i w e), fun q hq => ?_, n1⟩, s, .lst (.inl (.inl upd_same)) (dpAll_same s (rlAll_da.mp h2))⟩
  · by_cases z : b = p
    · subst z; rw [upd_same] at e; cases e; exact h1
    · rw [upd_ne z] at e; exact c.bh b x e
  · have z : b ≠ p := fun z => by subst z; rw [hp0] at e; cases e
    rw [upd_ne z]; exact c.bf b x e
  · obtain ⟨q1, q2, q3⟩ := c.mu q (List.mem_append_left _ hq)
    have z : q.1 ≠ p := n2 q.1 (List.mem_map.mpr ⟨q, hq, rfl⟩) p (by simp)
    exact ⟨muAt_same s rfl q1, by rw [upd_ne z]; exact q2, q3⟩
theorem ev_frz {te : TE} (h : Ev K g δ μ te fun w μ1 => ∃ p ds μ2, w = .va (.ref p) ∧ μ1 = μ2 ++ [(p, .lis (ds.map Sl.da))] ∧ (∀ x, x ∈ g.ms → x ∈ μ2.map (·.1)) ∧ k (dL ds) μ2) : Ev K g δ μ te k := fun σ H B c Q hq =>
  h σ H B c Q fun w μ1 v H1 B1 h1 c1 s1 r1 => by
    obtain ⟨p, ds, μ2, e1, e2, hm, hk⟩ := h1
    subst e1 e2
    cases (show v = _ from r1)
    obtain ⟨B2, c2, s2, r2⟩ := c1.freeze hm
    exact hq _ _ _ _ _ hk c2 (s1.trans s2) r2
end

/-! ### statements -/
section
variable {K : PySem.W.Frag} {g : Gr} {δ : List Sl} {μ : Mus} {F : AE} {t u tb : TS} {te tl : TE} {tt : TT} {ta : TA} {B0 : Hp}
theorem Same.rfl' {B : Hp} : Same B B := fun _ _ e => e
theorem Fits.mono {D : Ends} {B B' : Hp} (f : Fits K g F D B) (e : Same B B') : Fits K g F D B' :=
  ⟨fun a b s H' B2 x c z => f.nx a b s H' B2 x c (e.trans z), fun w m d s v H' B2 x c z => f.rt w m d s v H' B2 x c (e.trans z), fun a b s H' B2 x c z => f.bk a b s H' B2 x c (e.trans z), fun a b s H' B2 x c z => f.ct a b s H' B2 x c (e.trans z)⟩
theorem go_seq (h : Go K g δ μ t { F with nx := fun δ' μ' => Go K g δ' μ' u F }) : Go K g δ μ (tSeq t u) F := fun σ H B c D f =>
  h σ H B c _ ⟨fun δ' μ' σ' H' B' hg c' s => hg σ' H' B' c' D (f.mono s), f.rt, f.bk, f.ct⟩
theorem go_next (h : F.nx δ μ) : Go K g δ μ tNext F := fun σ H B c D f => f.nx _ _ _ _ _ h c Same.rfl'
theorem go_set {i : Nat} (h : Ev K g δ μ te fun w μ1 => F.nx (δ.set i w) μ1) : Go K g δ μ (tAsg te (gName i)) F := fun σ H B c D f =>
  h σ H B c _ fun w μ1 v H1 B1 h1 c1 s1 r1 => f.nx _ _ _ _ _ h1 (c1.store r1) s1
theorem go_drop (h : Ev K g δ μ te fun _ μ1 => F.nx δ μ1) : Go K g δ μ (tDrop te) F := fun σ H B c D f =>
  h σ H B c _ fun w μ1 v H1 B1 h1 c1 s1 r1 => f.nx _ _ _ _ _ h1 c1 s1
theorem go_ret (h : Ev K g δ μ te F.rt) : Go K g δ μ (tRet te) F := fun σ H B c D f =>
  h σ H B c _ fun w μ1 v H1 B1 h1 c1 s1 r1 => f.rt _ _ _ _ _ _ _ h1 c1 s1 r1
theorem go_brk (h : F.bk δ μ) : Go K g δ μ tBreak F := fun σ H B c D f => f.bk _ _ _ _ _ h c Same.rfl'
theorem go_if (h : EvB K g δ μ tt fun b μ1 => (b = true → Go K g δ μ1 t F) ∧ (b = false → Go K g δ μ1 u F)) : Go K g δ μ (tIfS tt t u) F := fun σ H B c D f =>
  h σ H B c _ fun b μ1 H1 B1 h1 c1 s1 => by
    cases b with
    | true => exact h1.1 rfl σ H1 B1 c1 D (f.mono s1)
    | false => exact h1.2 rfl σ H1 B1 c1 D (f.mono s1)
theorem Go.imp {F' : AE} (h : Go K g δ μ t F) (h1 : ∀ a b, F.nx a b → F'.nx a b) (h2 : ∀ a b, F.rt a b → F'.rt a b) (h3 : ∀ a b, F.bk a b → F'.bk a b) (h4 : ∀ a b, F.ct a b → F'.ct a b) : Go K g δ μ t F' := fun σ H B c D f =>
  h σ H B c D ⟨fun a b s H' B' x => f.nx a b s H' B' (h1 a b x), fun w m d s v H' B' x => f.rt w m d s v H' B' (h2 w m x), fun a b s H' B' x => f.bk a b s H' B' (h3 a b x), fun a b s H' B' x => f.ct a b s H' B' (h4 a b x)⟩
/-- forget, at the start of a statement -/
theorem Go.sub {δ' : List Sl} {μ' : Mus} (h : Go K g δ' μ' t F) (hd : δ'.length = δ.length) (h1 : ∀ (i : Nat) (w : Sl), δ'[i]? = some w → w = .no ∨ δ[i]? = some w) (h2 : ∀ q, q ∈ μ' → q ∈ μ) (h3 : (μ'.map (·.1)).Nodup) : Go K g δ μ t F := fun σ H B c D f => h σ H B (c.sub hd h1 h2 h3) D f
/-- a, b, .. = e: names -/
def setAll (δ : List Sl) : List Nat → List Sl → List Sl
  | i :: is, w :: ws => setAll (δ.set i w) is ws
  | _, _ => δ
def gNames : List Nat → TGs
  | [] => gNil
  | i :: is => gCons (gName i) (gNames is)
theorem names_run {H B : Hp} {Q : St → Hp → Prop} : ∀ {is : List Nat} {δ : List Sl} {vs : List V} {ws : List Sl} {σ : L2.St}, Cta K g δ μ σ H B → RlAll K B vs ws → is.length = ws.length → (∀ σ', Cta K g (setAll δ is ws) μ σ' H B → Q σ' H) → gNames is vs σ H Q
  | [], δ, vs, ws, σ, c, r, hl, q => by
    cases ws with
    | nil => cases r; exact ⟨rfl, q σ c⟩
    | cons _ _ => simp at hl
  | i :: is, δ, vs, ws, σ, c, r, hl, q => by
    cases ws with
    | nil => simp at hl
    | cons w ws =>
      cases r with
      | cons h a => exact ⟨_, _, rfl, names_run (c.store h) a (by simpa using hl) q⟩
theorem go_unpack {n : Nat} {is : List Nat} (hn : is.length = n) (h : Ev K g δ μ te fun w μ1 => ∃ ds, w = dT ds ∧ ds.length = n ∧ F.nx (setAll δ is (ds.map Sl.da)) μ1) : Go K g δ μ (tAsg te (gTup K n (gNames is))) F := fun σ H B c D f =>
  h σ H B c _ fun w μ1 v H1 B1 h1 c1 s1 r1 => by
    obtain ⟨ds, e, hl, hk⟩ := h1
    subst e
    obtain ⟨p, xs, rfl, h2, h3⟩ := dp_tup r1
    exact ⟨p, xs, rfl, same_t c1.bh h2, by rw [DpAll.len h3, hl], names_run c1 (rlAll_da.mpr h3) (by rw [List.length_map, hl, hn]) fun σ' c2 => f.nx _ _ _ _ _ hk c2 s1⟩
theorem go_aug {i : Nat} {f : Int → Int → Int} {a : Int} (hx : δ[i]? = some (dI a)) (h : Ev K g δ μ te fun w μ1 => ∃ b, w = dI b ∧ F.nx (δ.set i (dI (f a b))) μ1) : Go K g δ μ (tAug i te (ipI f)) F := fun σ H B c D fi => by
  obtain ⟨v, e, r⟩ := c.sl i _ hx
  cases (dp_int r)
  refine ⟨_, e, h σ H B c _ fun w μ1 v H1 B1 h1 c1 s1 r1 => ?_⟩
  obtain ⟨b, e, hk⟩ := h1
  subst e
  exact ⟨a, b, rfl, dp_int r1, fi.nx _ _ _ _ _ hk (c1.store (.int _)) s1⟩

/-! ### loops -/
/-- the invariant's state -/
def Iz (K : PySem.W.Frag) (g : Gr) (B0 : Hp) (Iv : List Sl → Mus → Prop) (σ : L2.St) (H : Hp) : Prop := ∃ δ' μ' B, Iv δ' μ' ∧ Cta K g δ' μ' σ H B ∧ Same B0 B
def turnAE (F : AE) (Iv : List Sl → Mus → Prop) : AE := { nx := Iv, rt := F.rt, bk := F.nx, ct := Iv }
theorem fits_turn {D : Ends} {B B' : Hp} (f : Fits K g F D B) (s : Same B B') {Iv : List Sl → Mus → Prop} : Fits K g (turnAE F Iv) { D with nx := Iz K g B Iv, ct := Iz K g B Iv, bk := D.nx } B' :=
  ⟨fun δ' μ' σ' H' B2 h c z => ⟨δ', μ', B2, h, c, s.trans z⟩, (f.mono s).rt, (f.mono s).nx, fun δ' μ' σ' H' B2 h c z => ⟨δ', μ', B2, h, c, s.trans z⟩⟩
theorem go_while {tc : TT} (Iv : Nat → List Sl → Mus → Prop) (m0 : Nat) (h0 : Iv m0 δ μ)
    (hs : ∀ m δ' μ', Iv m δ' μ' → EvB K g δ' μ' tc fun b μ1 => (b = true → Go K g δ' μ1 tb (turnAE F fun δ2 μ2 => ∃ m', m' < m ∧ Iv m' δ2 μ2)) ∧ (b = false → F.nx δ' μ1)) : Go K g δ μ (tWhile tc tb) F := fun σ H B c D f =>
  ⟨fun m => Iz K g B (Iv m), ⟨m0, δ, μ, B, h0, c, Same.rfl'⟩, fun m σ1 H1 ⟨δ1, μ1, B1, i1, c1, s1⟩ => hs m δ1 μ1 i1 σ1 H1 B1 c1 _ fun b μ2 H2 B2 h2 c2 s2 => by
    cases b with
    | true =>
      refine ⟨Iz K g B fun δ2 μ2 => ∃ m', m' < m ∧ Iv m' δ2 μ2, fun σ3 H3 ⟨δ3, μ3, B3, ⟨m', hm, i3⟩, c3, s3⟩ => ⟨m', hm, δ3, μ3, B3, i3, c3, s3⟩, ?_⟩
      exact h2.1 rfl σ1 H2 B2 c2 _ (fits_turn f (s1.trans s2))
    | false => exact f.nx _ _ _ _ _ (h2.2 rfl) c2 (s1.trans s2)⟩
/-- what a loop over n things asks: the invariant, at its start, one turn with the i-th thing, at the end -/
def Turns (n : Nat) (δ : List Sl) (μ : Mus) (F : AE) (Iv : Nat → List Sl → Mus → Prop) (body : Nat → List Sl → Mus → AE → Prop) : Prop :=
  Iv 0 δ μ ∧ (∀ i δ' μ', i < n → Iv i δ' μ' → body i δ' μ' (turnAE F (Iv (i + 1)))) ∧ ∀ δ' μ', Iv n δ' μ' → F.nx δ' μ'
/-- for x in (data) -/
theorem go_forL {j : Nat} (h : Ev K g δ μ tl fun w μ1 => ∃ ds, w = dL ds ∧ ∃ Iv, Turns ds.length δ μ1 F Iv fun i δ' μ' F' => ∀ d, ds[i]? = some d → Go K g (δ'.set j (.da d)) μ' tb F') : Go K g δ μ (tFor (iList K tl) (gName j) tb) F := fun σ H B c D f =>
  h σ H B c _ fun w μ1 v H1 B1 h1 c1 s1 r1 => by
    obtain ⟨ds, e, Iv, i0, is, id⟩ := h1
    subst e
    obtain ⟨p, xs, rfl, h2, h3⟩ := dp_lst r1
    have f1 := f.mono s1
    refine ⟨p, rfl, ⟨xs, same_l c1.bh h2⟩, for_list (xs := xs) (fun i => Iz K g B1 (Iv i)) ⟨δ, μ1, B1, i0, c1, Same.rfl'⟩ (fun i σ' H' _ ⟨δ', μ', B', _, c', s'⟩ => same_l c'.bh (same_l s' h2)) (fun i x σ' H' hx ⟨δ', μ', B', hi, c', s'⟩ => ?_) (fun σ' H' ⟨δ', μ', B', hi, c', s'⟩ => ?_)⟩
    · obtain ⟨d, hd, hr⟩ := DpAll.get' h3 hx
      exact is i δ' μ' (List.getElem?_eq_some_iff.mp hd).1 hi d hd _ H' B' (c'.store (w := .da d) (dp_same s' hr)) _ (fits_turn f1 s')
    · rw [DpAll.len h3] at hi
      exact f1.nx _ _ _ _ _ (id _ _ hi) c' s'
theorem go_forT {j : Nat} (h : Ev K g δ μ tl fun w μ1 => ∃ ds, w = dT ds ∧ ∃ Iv, Turns ds.length δ μ1 F Iv fun i δ' μ' F' => ∀ d, ds[i]? = some d → Go K g (δ'.set j (.da d)) μ' tb F') : Go K g δ μ (tFor (iTup K tl) (gName j) tb) F := fun σ H B c D f =>
  h σ H B c _ fun w μ1 v H1 B1 h1 c1 s1 r1 => by
    obtain ⟨ds, e, Iv, i0, is, id⟩ := h1
    subst e
    obtain ⟨p, xs, rfl, h2, h3⟩ := dp_tup r1
    have f1 := f.mono s1
    refine ⟨p, rfl, ⟨xs, same_t c1.bh h2⟩, for_tup (xs := xs) (fun i => Iz K g B1 (Iv i)) ⟨δ, μ1, B1, i0, c1, Same.rfl'⟩ (fun i σ' H' _ ⟨δ', μ', B', _, c', s'⟩ => same_t c'.bh (same_t s' h2)) (fun i x σ' H' hx ⟨δ', μ', B', hi, c', s'⟩ => ?_) (fun σ' H' ⟨δ', μ', B', hi, c', s'⟩ => ?_)⟩
    · obtain ⟨d, hd, hr⟩ := DpAll.get' h3 hx
      exact is i δ' μ' (List.getElem?_eq_some_iff.mp hd).1 hi d hd _ H' B' (c'.store (w := .da d) (dp_same s' hr)) _ (fits_turn f1 s')
    · rw [DpAll.len h3] at hi
      exact f1.nx _ _ _ _ _ (id _ _ hi) c' s'
/-- for x in a list that may change (but does not while it is walked) -/
theorem go_forM {j : Nat} (h : Ev K g δ μ tl fun w μ1 => ∃ (a : Addr) (n : Nat) (ws : List Sl), w = .va (.ref a) ∧ ∃ Iv : Nat → List Sl → Mus → Prop, Turns ws.length δ μ1 F Iv (fun i δ' μ' F' => ∀ d, ws[i]? = some d → Go K g (δ'.set j d) μ' tb F') ∧ ∀ i δ' μ', Iv i δ' μ' → μ'[n]? = some (a, .lis ws)) : Go K g δ μ (tFor (iList K tl) (gName j) tb) F := fun σ H B c D f =>
  h σ H B c _ fun w μ1 v H1 B1 h1 c1 s1 r1 => by
    obtain ⟨a, n, ws, e, Iv, ⟨i0, is, id⟩, hm⟩ := h1
    subst e
    cases (show v = _ from r1)
    obtain ⟨xs, h2, h3⟩ := c1.lis (hm 0 δ μ1 i0)
    have f1 := f.mono s1
    have len : xs.length = ws.length := h3.len
    refine ⟨a, rfl, ⟨xs, SqL.of h2⟩, fun i m σ H => m = ws.length - i ∧ i ≤ ws.length ∧ Iz K g B1 (Iv i) σ H, ⟨ws.length, rfl, Nat.zero_le _, δ, μ1, B1, i0, c1, Same.rfl'⟩, fun i m σ' H' ⟨em, il, δ', μ', B', hi, c', s'⟩ => ?_⟩
    obtain ⟨ys, y1, y2⟩ := c'.lis (hm i δ' μ' hi)
    have ylen := y2.len
    by_cases hlt : i < ws.length
    · right
      obtain ⟨y, hy, hr⟩ := y2.get (List.getElem?_eq_getElem hlt)
      refine ⟨⟨ys, y, SqL.of y1, hy⟩, Iz K g B1 (Iv (i + 1)), fun σ2 H2 z => ⟨ws.length - (i + 1), by omega, rfl, hlt, z⟩, fun x H2 yl => ?_⟩
      obtain ⟨rfl, hx⟩ := yl
      have := hx ys (SqL.of y1)
      rw [hy] at this
      cases this
      exact is i δ' μ' hlt hi _ (List.getElem?_eq_getElem hlt) _ _ B' (c'.store hr) _ (fits_turn f1 s')
    · left
      have : i = ws.length := by omega
      subst this
      exact ⟨⟨ys, SqL.of y1, by omega⟩, f1.nx _ _ _ _ _ (id _ _ hi) c' s'⟩
theorem rl1 {B : Hp} {vs : List V} {w : Sl} (r : RlAll K B vs [w]) : ∃ v, vs = [v] ∧ Rl K B v w := by
  cases r with
  | cons a b => cases b; exact ⟨_, rfl, a⟩
theorem rl2 {B : Hp} {vs : List V} {w w' : Sl} (r : RlAll K B vs [w, w']) : ∃ v v', vs = [v, v'] ∧ Rl K B v w ∧ Rl K B v' w' := by
  cases r with
  | cons a b => obtain ⟨v', e, h⟩ := rl1 b; subst e; exact ⟨_, _, rfl, a, h⟩
theorem rl3 {B : Hp} {vs : List V} {w w' w'' : Sl} (r : RlAll K B vs [w, w', w'']) : ∃ v v' v'', vs = [v, v', v''] ∧ Rl K B v w ∧ Rl K B v' w' ∧ Rl K B v'' w'' := by
  cases r with
  | cons a b => obtain ⟨v', v'', e, h1, h2⟩ := rl2 b; subst e; exact ⟨_, _, _, rfl, a, h1, h2⟩
def small (i : Int) : Prop := -(2 ^ 62) ≤ i ∧ i < 2 ^ 62
theorem small_of {i : Int} (h1 : -1000000 ≤ i) (h2 : i ≤ 1000000) : small i := ⟨by omega, by omega⟩
theorem go_forR1 {j : Nat} (h : EvA K g δ μ ta fun ws μ1 => ∃ hi : Int, ws = [dI hi] ∧ small hi ∧ ∃ Iv, Turns hi.toNat δ μ1 F Iv fun i δ' μ' F' => Go K g (δ'.set j (dI i)) μ' tb F') : Go K g δ μ (tFor (iRng1 ta) (gName j) tb) F := fun σ H B c D f =>
  h σ H B c _ fun ws μ1 vs H1 B1 h1 c1 s1 r1 => by
    obtain ⟨hi, e, sm, Iv, i0, is, id⟩ := h1
    subst e
    obtain ⟨v, rfl, r2⟩ := rl1 r1
    have f1 := f.mono s1
    refine ⟨hi, by rw [dp_int r2], sm.1, sm.2, for_range (fun i => Iz K g B1 (Iv i)) ⟨δ, μ1, B1, i0, c1, Same.rfl'⟩ (fun i σ' H' hx ⟨δ', μ', B', hi', c', s'⟩ => ?_) (fun σ' H' ⟨δ', μ', B', hi', c', s'⟩ => f1.nx _ _ _ _ _ (id _ _ hi') c' s')⟩
    have e0 : (0 : Int) + (i : Int) = i := Int.zero_add _
    rw [e0]
    exact is i δ' μ' hx hi' _ H' B' (c'.store (w := dI i) (.int _)) _ (fits_turn f1 s')
theorem go_forR2 {j : Nat} (h : EvA K g δ μ ta fun ws μ1 => ∃ lo hi : Int, ws = [dI lo, dI hi] ∧ small lo ∧ small hi ∧ ∃ Iv, Turns (hi - lo).toNat δ μ1 F Iv fun i δ' μ' F' => Go K g (δ'.set j (dI (lo + i))) μ' tb F') : Go K g δ μ (tFor (iRng2 ta) (gName j) tb) F := fun σ H B c D f =>
  h σ H B c _ fun ws μ1 vs H1 B1 h1 c1 s1 r1 => by
    obtain ⟨lo, hi, e, sm, sm2, Iv, i0, is, id⟩ := h1
    subst e
    obtain ⟨v, v', rfl, r2, r3⟩ := rl2 r1
    have f1 := f.mono s1
    refine ⟨lo, hi, by rw [dp_int r2, dp_int r3], ⟨sm.1, sm.2, sm2.1, sm2.2⟩, for_range (fun i => Iz K g B1 (Iv i)) ⟨δ, μ1, B1, i0, c1, Same.rfl'⟩ (fun i σ' H' hx ⟨δ', μ', B', hi', c', s'⟩ => ?_) (fun σ' H' ⟨δ', μ', B', hi', c', s'⟩ => f1.nx _ _ _ _ _ (id _ _ hi') c' s')⟩
    exact is i δ' μ' hx hi' _ H' B' (c'.store (w := dI (lo + i)) (.int _)) _ (fits_turn f1 s')
end
end De
end
section
set_option Elab.async false
set_option linter.all false
set_option maxRecDepth 100000
set_option maxHeartbeats 2000000
/-! The layer's rules for calls, defs, comprehensions. -/
namespace De
open PySem L2 PySem.Spec PyProof.Rows

/-! ### a def's promise, told of data -/
abbrev Spec := List Sl → Mus → (Sl → Mus → Prop) → Prop
structure Frm (B H B' H' : Hp) (ms ms' : List Addr) : Prop where
  bb : Same B B'
  bh : Same B' H'
  bf : ∀ b o, H b = some o → B' b = B b
  kp : ∀ b o, H b = some o → b ∉ ms → H' b = some o
  th : ∀ b o, H b = some o → H' b ≠ none
  nw : ∃ news, ms' = ms ++ news ∧ ∀ a, a ∈ news → H a = none
def spG (K : PySem.W.Frag) (S : Spec) : Sp := fun vs H Q _ => ∃ B ws μ, Same B H ∧ RlAll K B vs ws ∧ (∀ q, q ∈ μ → MuAt K B H q.1 q.2 ∧ B q.1 = none) ∧ (μ.map (·.1)).Nodup ∧
  ∃ k, S ws μ k ∧ ∀ w μ', k w μ' → ∀ v B' H', Frm B H B' H' (μ.map (·.1)) (μ'.map (·.1)) → Rl K B' v w → (∀ q, q ∈ μ' → MuAt K B' H' q.1 q.2 ∧ B' q.1 = none) → (μ'.map (·.1)).Nodup → Q v H'
/-- what is handed back: the value, the objects that were given (and new ones) -/
def RetK (g : Gr) (k : Sl → Mus → Prop) (w : Sl) (μ1 : Mus) : Prop := ∃ μ' news, μ'.Sublist μ1 ∧ μ'.map (·.1) = g.ms ++ news ∧ k w μ'
def noes (n : Nat) : List Sl := List.replicate n .no
/-- the slots at the start -/
def slots0 (N : List Str) (ws : List Sl) : List Sl := ws ++ noes (N.length - ws.length)
def endAE (g : Gr) (k : Sl → Mus → Prop) : AE := { nx := fun _ μ' => RetK g k dN μ', rt := RetK g k }
section
variable {P : Program} {w : World} {K : PySem.W.Frag} {mg : Str → Option Value} {base : Heap}
theorem rlAll_get' {B : Hp} : ∀ {vs : List V} {ws : List Sl} {i : Nat} {w : Sl}, RlAll K B vs ws → ws[i]? = some w → ∃ v, vs[i]? = some v ∧ Rl K B v w := fun r h => r.get h
theorem cta_start {N : List Str} {vs : List V} {ws : List Sl} {μ : Mus} {H B : Hp} {g : Gr} (e0 : g.H0 = H) (e1 : g.B0 = B) (e2 : g.ms = μ.map (·.1)) (hs : Same B H) (r : RlAll K B vs ws) (hm : ∀ q, q ∈ μ → MuAt K B H q.1 q.2 ∧ B q.1 = none) (hn : (μ.map (·.1)).Nodup) (hl : ws.length ≤ N.length) :
    Cta K g (slots0 N ws) μ (L2.start N vs) H B := by
  obtain ⟨H0, B0, ms⟩ := g
  subst e0 e1 e2
  refine ⟨fun _ _ e => e, hs, fun _ _ _ => rfl, fun _ _ e _ => e, fun b o e q => (by rw [e] at q; cases q), ?_, fun i w' e => ?_, fun q hq => ⟨(hm q hq).1, (hm q hq).2, .inr (List.mem_map.mpr ⟨q, hq, rfl⟩)⟩, hn⟩
  · unfold L2.start slots0 noes
    have := r.len
    rw [List.length_append, List.length_append, List.length_map, List.length_replicate, List.length_replicate, this]
  · have hlen := r.len
    unfold slots0 noes at e
    by_cases h : i < ws.length
    · rw [List.getElem?_append_left h] at e
      obtain ⟨v, h1, h2⟩ := r.get e
      have e3 : (L2.start N vs)[i]? = some (some v) := by
        unfold L2.start
        rw [List.getElem?_append_left (by rw [List.length_map]; omega), List.getElem?_map, h1]
        rfl
      rw [e3]
      cases w' with
      | no => trivial
      | da d => exact ⟨v, rfl, h2⟩
      | va u => exact congrArg (fun t => some (some t)) h2
    · rw [List.getElem?_append_right (by omega), List.getElem?_replicate] at e
      split at e
      · cases e; trivial
      · cases e
/-- THE RULE for a def -/
theorem fn_go {x qual : Str} {st : Stmt} {f : Addr} {fd : FuncData} {N ps : List Str} {n : Nat} {S : Spec} (F : Fun K x qual st f fd) (Sc : FnScope N ps (defScope st)) (len : ∀ ws μ k, S ws μ k → ws.length = ps.length)
    (hbody : ∀ (cdv : Value) (A : Around) (outer : List Env) (s : Shared) (H : Hp) (E : XK), Room n (A.deeper (envOfC qual (defScope st) s.heap.objs.size f cdv)) →
      ∃ t, PSs (cxOf CX0 P w K mg base N qual (defScope st) f cdv A outer s H E).nox (defBody st) t ∧ ∀ g ws μ k, g.ms = μ.map (·.1) → S ws μ k → Go K g (slots0 N ws) μ t (endAE g k)) : FnOk P w K mg base CX0 (n + 1) f fd ps (spG K S) := by
  refine F.ok Sc (fun vs H Q E h => ?_) (fun cdv A outer s H vs Q E hr h => ?_)
  · obtain ⟨B, ws, μ, _, r, _, _, k, hS, _⟩ := h
    rw [r.len]; exact len _ _ _ hS
  · obtain ⟨B, ws, μ, hs, r, hm, hn, k, hS, hk⟩ := h
    obtain ⟨t, ht, hg⟩ := hbody cdv A outer s H E hr
    refine ⟨t, ht, ?_⟩
    have hl : ws.length ≤ N.length := by
      rw [len _ _ _ hS]
      have := congrArg List.length Sc.pre
      rw [List.length_take] at this
      omega
    have c := cta_start (g := ⟨H, B, μ.map (·.1)⟩) (N := N) rfl rfl rfl hs r hm hn hl
    have fin : ∀ w' μ1 δ1 σ1 v H1 B1, RetK ⟨H, B, μ.map (·.1)⟩ k w' μ1 → Cta K ⟨H, B, μ.map (·.1)⟩ δ1 μ1 σ1 H1 B1 → Rl K B1 v w' → Q v H1 := fun w' μ1 δ1 σ1 v H1 B1 ⟨μ', news, q1, q2, q3⟩ c1 r1 => by
      have nd' : (μ'.map (·.1)).Nodup := c1.nd.sublist (q1.map _)
      refine hk w' μ' q3 v B1 H1 ⟨c1.b0, c1.bh, c1.bf, c1.kp, c1.th, news, q2, fun a ha => ?_⟩ r1 (fun q hq => ⟨(c1.mu q (q1.subset hq)).1, (c1.mu q (q1.subset hq)).2.1⟩) nd'
      have hin : a ∈ μ'.map (·.1) := by rw [q2]; exact List.mem_append_right _ ha
      obtain ⟨q, hq, rfl⟩ := List.mem_map.mp hin
      rcases (c1.mu q (q1.subset hq)).2.2 with z | z
      · exact z
      · rw [q2, List.nodup_append] at nd'
        exact absurd rfl (nd'.2.2 _ z _ ha)
    have hg' := hg ⟨H, B, μ.map (fun x => x.1)⟩ ws μ k rfl hS
    exact hg' _ H B c _ ⟨fun δ' μ' σ' H' B' h c' _ => fin dN μ' δ' σ' .non H' B' h c' Dp.non, fun w' μ' δ' σ' v H' B' h c' _ r' => fin w' μ' δ' σ' v H' B' h c' r', fun _ _ _ _ _ h => h.elim, fun _ _ _ _ _ h => h.elim⟩
end

/-! ### calls -/
def pick (μ : Mus) : List Nat → Option Mus
  | [] => some []
  | j :: js => match μ[j]?, pick μ js with
    | some q, some r => some (q :: r)
    | _, _ => none
def put : Mus → List Nat → Mus → Mus
  | μ, [], l => μ ++ l
  | μ, j :: js, q :: l => put (μ.set j q) js l
  | μ, _ :: _, [] => μ
/-- a call: what the callee may change stands at js -/
def CallK (S : Spec) (ws : List Sl) (μ1 : Mus) (k : Sl → Mus → Prop) : Prop := ∃ js μf, pick μ1 js = some μf ∧ js.Nodup ∧ ∃ k1, S ws μf k1 ∧ ∀ w μf' news, μf'.map (·.1) = μf.map (·.1) ++ news → k1 w μf' → k w (put μ1 js μf')
theorem pick_mem {μ : Mus} : ∀ {js : List Nat} {μf : Mus}, pick μ js = some μf → ∀ q, q ∈ μf → q ∈ μ
  | [], μf, h, q, hq => by
    cases h; cases hq
  | j :: js, μf, h, q, hq => by
    unfold pick at h
    cases e : μ[j]? with
    | none => rw [e] at h; cases h
    | some q0 =>
      cases e2 : pick μ js with
      | none => rw [e, e2] at h; cases h
      | some r =>
        rw [e, e2] at h
        cases h
        rcases List.mem_cons.mp hq with z | z
        · rw [z]; exact get_addr e
        · exact pick_mem e2 q z
/-- the places that a pick leaves out -/
theorem pick_addr {μ : Mus} (nd : (μ.map (·.1)).Nodup) : ∀ {js : List Nat} {μf : Mus}, pick μ js = some μf → ∀ (i : Nat) (q : Addr × Mu), i ∉ js → μ[i]? = some q → q.1 ∉ μf.map (·.1)
  | [], μf, h, i, q, hi, e => by
    cases h; simp
  | j :: js, μf, h, i, q, hi, e => by
    unfold pick at h
    cases e1 : μ[j]? with
    | none => rw [e1] at h; cases h
    | some q0 =>
      cases e2 : pick μ js with
      | none => rw [e1, e2] at h; cases h
      | some r =>
        rw [e1, e2] at h
        cases h
        rw [List.mem_cons, not_or] at hi
        rw [List.map_cons, List.mem_cons, not_or]
        refine ⟨fun z => hi.1 (nd_ix nd (x := q.1) ?_ ?_), pick_addr nd e2 i q hi.2 e⟩
        · rw [List.getElem?_map, e]; rfl
        · rw [List.getElem?_map, e1, z]; rfl
theorem pick_nodup {μ : Mus} (nd : (μ.map (·.1)).Nodup) : ∀ {js : List Nat} {μf : Mus}, pick μ js = some μf → js.Nodup → (μf.map (·.1)).Nodup
  | [], μf, h, _ => by cases h; simp
  | j :: js, μf, h, hn => by
    unfold pick at h
    cases e1 : μ[j]? with
    | none => rw [e1] at h; cases h
    | some q0 =>
      cases e2 : pick μ js with
      | none => rw [e1, e2] at h; cases h
      | some r =>
        rw [e1, e2] at h
        cases h
        obtain ⟨h1, h2⟩ := List.nodup_cons.mp hn
        rw [List.map_cons, List.nodup_cons]
        exact ⟨pick_addr nd e2 j q0 h1 e1, pick_nodup nd e2 h2⟩
theorem set_addr {μ : Mus} {j : Nat} {q q' : Addr × Mu} (h : μ[j]? = some q) (e : q'.1 = q.1) : (μ.set j q').map (·.1) = μ.map (·.1) := by
  rw [List.map_set]
  have : (μ.map (·.1))[j]? = some q.1 := by rw [List.getElem?_map, h]; rfl
  obtain ⟨q1, q2⟩ := List.getElem?_eq_some_iff.mp this
  show (μ.map (·.1)).set j q'.1 = _
  rw [e, ← q2]
  exact List.set_getElem_self _
theorem pick_set {μ : Mus} {j : Nat} {q : Addr × Mu} : ∀ {js : List Nat}, j ∉ js → pick (μ.set j q) js = pick μ js
  | [], _ => rfl
  | i :: js, h => by
    rw [List.mem_cons, not_or] at h
    unfold pick
    rw [pick_set h.2, List.getElem?_set_ne h.1]
theorem put_addr : ∀ {js : List Nat} {μ μf l : Mus} {news : List Addr}, pick μ js = some μf → js.Nodup → l.map (·.1) = μf.map (·.1) ++ news → (put μ js l).map (·.1) = μ.map (·.1) ++ news
  | [], μ, μf, l, news, h, _, e => by
    cases h
    unfold put
    rw [List.map_append, e]; rfl
  | j :: js, μ, μf, l, news, h, hn, e => by
    unfold pick at h
    cases e1 : μ[j]? with
    | none => rw [e1] at h; cases h
    | some q0 =>
      cases e2 : pick μ js with
      | none => rw [e1, e2] at h; cases h
      | some r =>
        rw [e1, e2] at h
        cases h
        obtain ⟨h1, h2⟩ := List.nodup_cons.mp hn
        cases l with
        | nil => simp at e
        | cons q l =>
          rw [List.map_cons, List.map_cons, List.cons_append] at e
          injection e with ea eb
          unfold put
          rw [put_addr (μ := μ.set j q) (by rw [pick_set h1]; exact e2) h2 eb, set_addr e1 ea]
theorem put_mem : ∀ {js : List Nat} {μ l : Mus} {q : Addr × Mu}, l.length ≥ js.length → q ∈ put μ js l → q ∈ l ∨ ∃ i, i ∉ js ∧ μ[i]? = some q
  | [], μ, l, q, _, h => by
    unfold put at h
    rcases List.mem_append.mp h with z | z
    · obtain ⟨i, hi⟩ := List.mem_iff_getElem?.mp z
      exact .inr ⟨i, by simp, hi⟩
    · exact .inl z
  | j :: js, μ, [], q, hl, h => by simp at hl
  | j :: js, μ, q0 :: l, q, hl, h => by
    unfold put at h
    rcases put_mem (by simpa using hl) h with z | ⟨i, hi, e⟩
    · exact .inl (List.mem_cons_of_mem _ z)
    · by_cases z : i = j
      · subst z
        by_cases hlt : i < μ.length
        · rw [List.getElem?_set_self hlt] at e
          cases e
          exact .inl List.mem_cons_self
        · rw [List.getElem?_eq_none (by simpa using hlt)] at e; cases e
      · rw [List.getElem?_set_ne (Ne.symm z)] at e
        exact .inr ⟨i, by rw [List.mem_cons, not_or]; exact ⟨z, hi⟩, e⟩
theorem pick_len {μ : Mus} : ∀ {js : List Nat} {μf : Mus}, pick μ js = some μf → μf.length = js.length
  | [], _, h => by cases h; rfl
  | j :: js, μf, h => by
    unfold pick at h
    cases e1 : μ[j]? with
    | none => rw [e1] at h; cases h
    | some q0 =>
      cases e2 : pick μ js with
      | none => rw [e1, e2] at h; cases h
      | some r => rw [e1, e2] at h; cases h; rw [List.length_cons, List.length_cons, pick_len e2]
section
variable {K : PySem.W.Frag} {g : Gr} {δ : List Sl} {μ : Mus} {k : Sl → Mus → Prop} {te ta tb : TE} {tas tk : TA} {S : Spec} {E : XK}
/-- behind a callee's frame -/
theorem Cta.called {σ : L2.St} {H B H' B' : Hp} {js : List Nat} {μf μf' : Mus} (c : Cta K g δ μ σ H B) (hp : pick μ js = some μf) (hj : js.Nodup) (fr : Frm B H B' H' (μf.map (·.1)) (μf'.map (·.1)))
    (hm : ∀ q, q ∈ μf' → MuAt K B' H' q.1 q.2 ∧ B' q.1 = none) (hnd : (μf'.map (·.1)).Nodup) : Cta K g δ (put μ js μf') σ H' B' ∧ ∃ news, μf'.map (·.1) = μf.map (·.1) ++ news := by
  obtain ⟨news, e, hnew⟩ := fr.nw
  have ea := put_addr hp hj e
  have hlen : μf'.length ≥ js.length := by
    have := congrArg List.length e
    rw [List.length_append, List.length_map, List.length_map, pick_len hp] at this
    omega
  have bn : ∀ b o, g.H0 b = some o → ∃ u, H b = some u := fun b o q => by
    cases z : H b with
    | none => exact absurd z (c.th b o q)
    | some u => exact ⟨u, rfl⟩
  refine ⟨⟨c.b0.trans fr.bb, fr.bh, fun b o q => ?_, fun b o q n => ?_, fun b o q => ?_, c.ln, fun i w q => slot_same fr.bb (c.sl i w q), fun q hq => ?_, ?_⟩, news, e⟩
  · obtain ⟨u, hu⟩ := bn b o q
    exact (fr.bf b u hu).trans (c.bf b o q)
  · refine fr.kp b o (c.kp b o q n) fun hin => ?_
    obtain ⟨r, hr, rfl⟩ := List.mem_map.mp hin
    rcases (c.mu r (pick_mem hp r hr)).2.2 with z | z
    · rw [z] at q; cases q
    · exact n z
  · obtain ⟨u, hu⟩ := bn b o q
    exact fr.th b u hu
  · rcases put_mem hlen hq with z | ⟨i, hi, ei⟩
    · refine ⟨(hm q z).1, (hm q z).2, ?_⟩
      have hin : q.1 ∈ μf'.map (·.1) := List.mem_map.mpr ⟨q, z, rfl⟩
      rw [e] at hin
      rcases List.mem_append.mp hin with y | y
      · obtain ⟨r, hr, er⟩ := List.mem_map.mp y
        rw [← er]
        exact (c.mu r (pick_mem hp r hr)).2.2
      · left
        cases z2 : g.H0 q.1 with
        | none => rfl
        | some o => exact absurd (hnew q.1 y) (c.th _ o z2)
    · obtain ⟨m1, m2, m3⟩ := c.mu q (get_addr ei)
      have hni := pick_addr c.nd hp i q hi ei
      obtain ⟨u, hu⟩ := muAt_some m1
      refine ⟨?_, by rw [fr.bf _ _ hu]; exact m2, m3⟩
      exact muAt_same fr.bb ((fr.kp _ _ hu hni).trans hu.symm) m1
  · rw [ea, List.nodup_append]
    refine ⟨c.nd, ?_, fun a ha b hb => ?_⟩
    · rw [e, List.nodup_append] at hnd
      exact hnd.2.1
    · obtain ⟨q, hq, rfl⟩ := List.mem_map.mp ha
      obtain ⟨u, hu⟩ := muAt_some (c.mu q hq).1
      exact ne_of_none hu (hnew b hb)
theorem call_run {σ : L2.St} {H B : Hp} {vs : List V} {ws : List Sl} {Q : VK} (c : Cta K g δ μ σ H B) (r : RlAll K B vs ws) (h : CallK S ws μ k) (hq : Cont K g δ σ B k Q) : spG K S vs H Q E := by
  obtain ⟨js, μf, hp, hj, k1, hS, hk⟩ := h
  refine ⟨B, ws, μf, c.bh, r, fun q hq => ⟨(c.mu q (pick_mem hp q hq)).1, (c.mu q (pick_mem hp q hq)).2.1⟩, pick_nodup c.nd hp hj, k1, hS, fun w μf' h1 v B' H' fr rv hm hnd => ?_⟩
  obtain ⟨c2, news, e⟩ := c.called hp hj fr hm hnd
  exact hq _ _ _ _ _ (hk w μf' news e h1) c2 fr.bb rv
theorem ev_call (h : EvA K g δ μ tas fun ws μ1 => CallK S ws μ1 k) : Ev K g δ μ (tCall (spG K S) [] E tas) k := fun σ H B c Q hq =>
  h σ H B c _ fun ws μ1 vs H1 B1 h1 c1 s1 r1 => by
    show spG K S (vs ++ []) H1 Q E
    rw [List.append_nil]
    exact call_run c1 r1 h1 (hq.mono s1)
theorem ev_callK {gV : List V → List V → List V} {gS : List Sl → List Sl → List Sl} (hg : ∀ B vs zs ws us, RlAll K B vs ws → RlAll K B zs us → RlAll K B (gV vs zs) (gS ws us)) (h : EvA K g δ μ tas fun ws μ1 => EvA K g δ μ1 tk fun us μ2 => CallK S (gS ws us) μ2 k) : Ev K g δ μ (L2.tCallK (spG K S) gV E tas tk) k := fun σ H B c Q hq =>
  h σ H B c _ fun ws μ1 vs H1 B1 h1 c1 s1 r1 => h1 σ H1 B1 c1 _ fun us μ2 zs H2 B2 h2 c2 s2 r2 => call_run c2 (hg _ _ _ _ _ (rlAll_same s2 r1) r2) h2 (hq.mono (s1.trans s2))
theorem ev_meth {C : Addr} {m : Str} (h : Ev K g δ μ ta fun w μ1 => ∃ (a : Addr) (n : Nat) (dx : Addr) (fs : List (Str × V)), w = .va (.ref a) ∧ μ1[n]? = some (a, .obj (.ins C dx fs)) ∧ fs.lookup m = none ∧ EvA K g δ μ1 tas fun ws μ2 => CallK S (.va (.ref a) :: ws) μ2 k) : Ev K g δ μ (tMeth C m (spG K S) [] E ta tas) k := fun σ H B c Q hq =>
  h σ H B c _ fun w μ1 v H1 B1 h1 c1 s1 r1 => by
    obtain ⟨a, n, dx, fs, e, hm, hl, h2⟩ := h1
    subst e
    cases (show v = _ from r1)
    refine ⟨a, dx, fs, rfl, (c1.mu _ (get_addr hm)).1, hl, h2 σ H1 B1 c1 _ fun ws μ2 vs H2 B2 h3 c2 s2 r2 => ?_⟩
    show spG K S (.ref a :: (vs ++ [])) H2 Q E
    rw [List.append_nil]
    exact call_run c2 (.cons (w := .va (.ref a)) rfl r2) h3 (hq.mono (s1.trans s2))
theorem ev_prop {C : Addr} (h : Ev K g δ μ ta fun w μ1 => ∃ (a : Addr) (n : Nat) (dx : Addr) (fs : List (Str × V)), w = .va (.ref a) ∧ μ1[n]? = some (a, .obj (.ins C dx fs)) ∧ CallK S [.va (.ref a)] μ1 k) : Ev K g δ μ (tProp C (spG K S) [] E ta) k := fun σ H B c Q hq =>
  h σ H B c _ fun w μ1 v H1 B1 h1 c1 s1 r1 => by
    obtain ⟨a, n, dx, fs, e, hm, h2⟩ := h1
    subst e
    cases (show v = _ from r1)
    exact ⟨a, dx, fs, rfl, (c1.mu _ (get_addr hm)).1, call_run c1 (.cons (w := .va (.ref a)) rfl .nil) h2 (hq.mono s1)⟩
/-- o.f -/
theorem ev_fld {f : Str} (h : Ev K g δ μ ta fun w μ1 => ∃ (a C : Addr) (n : Nat) (dx : Addr) (fs : List (Str × V)) (v : V), w = .va (.ref a) ∧ μ1[n]? = some (a, .obj (.ins C dx fs)) ∧ Cls K C ∧ NoAttr K C f ∧ fs.lookup f = some v ∧ k (sv v) μ1) : Ev K g δ μ (tFld K ta f) k := fun σ H B c Q hq =>
  h σ H B c _ fun w μ1 v H1 B1 h1 c1 s1 r1 => by
    obtain ⟨a, C, n, dx, fs, u, e, hm, hc, ha, hl, hk⟩ := h1
    subst e
    cases (show v = _ from r1)
    exact ⟨a, C, dx, fs, u, rfl, (c1.mu _ (get_addr hm)).1, hc, ha, hl, (hq.mono s1).go c1 hk (rl_sv u)⟩

/-! ### comprehensions -/
theorem wipe_get {σ : L2.St} {i : Nat} : ∀ {vs : List Nat}, (wipe σ vs)[i]? = if i ∈ vs ∧ i < σ.length then some none else σ[i]?
  | [] => by simp [wipe]
  | v :: vs => by
    unfold wipe
    by_cases h : v = i
    · subst h
      by_cases hl : v < σ.length
      · rw [List.getElem?_set_self (by rw [wipe_length]; exact hl), if_pos ⟨List.mem_cons_self, hl⟩]
      · rw [List.getElem?_eq_none (by rw [List.length_set, wipe_length]; omega), if_neg (by omega), List.getElem?_eq_none (by omega)]
    · rw [List.getElem?_set_ne h, wipe_get]
      have : (i ∈ v :: vs ∧ i < σ.length) ↔ (i ∈ vs ∧ i < σ.length) := by
        rw [List.mem_cons]
        constructor
        · rintro ⟨a | a, b⟩
          · exact absurd a.symm h
          · exact ⟨a, b⟩
        · rintro ⟨a, b⟩; exact ⟨.inr a, b⟩
      by_cases q : i ∈ vs ∧ i < σ.length
      · rw [if_pos q, if_pos (this.mpr q)]
      · rw [if_neg q, if_neg (fun z => q (this.mp z))]
theorem wipe_set {σ : L2.St} {j : Nat} {x : Option V} {vs : List Nat} (h : j ∈ vs) : wipe ((wipe σ vs).set j x) vs = wipe σ vs := by
  apply List.ext_getElem?
  intro i
  rw [wipe_get, wipe_get, List.length_set, wipe_length]
  by_cases q : i ∈ vs ∧ i < σ.length
  · rw [if_pos q, if_pos q]
  · rw [if_neg q, if_neg q]
    by_cases z : j = i
    · subst z
      have hz : ¬ j < σ.length := fun z => q ⟨h, z⟩
      rw [List.getElem?_eq_none (by rw [List.length_set, wipe_length]; omega), List.getElem?_eq_none (by omega)]
    · rw [List.getElem?_set_ne z, wipe_get, if_neg q]
def wipeS (δ : List Sl) : List Nat → List Sl
  | [] => δ
  | v :: vs => (wipeS δ vs).set v .no
theorem wipeS_len (δ : List Sl) : ∀ vs, (wipeS δ vs).length = δ.length
  | [] => rfl
  | v :: vs => by unfold wipeS; rw [List.length_set, wipeS_len]
theorem wipeS_get {δ : List Sl} {i : Nat} {w : Sl} : ∀ {vs : List Nat}, (wipeS δ vs)[i]? = some w → w = .no ∨ (i ∉ vs ∧ δ[i]? = some w)
  | [], h => .inr ⟨by simp, h⟩
  | v :: vs, h => by
    unfold wipeS at h
    by_cases z : v = i
    · subst z
      by_cases hl : v < (wipeS δ vs).length
      · rw [List.getElem?_set_self hl] at h; cases h; exact .inl rfl
      · rw [List.getElem?_eq_none (by simpa using hl)] at h; cases h
    · rw [List.getElem?_set_ne z] at h
      rcases wipeS_get h with q | ⟨q, r⟩
      · exact .inl q
      · exact .inr ⟨by rw [List.mem_cons, not_or]; exact ⟨Ne.symm z, q⟩, r⟩
theorem Cta.wipe {σ : L2.St} {H B : Hp} (c : Cta K g δ μ σ H B) (vs : List Nat) : Cta K g (wipeS δ vs) μ (L2.wipe σ vs) H B := by
  refine ⟨c.b0, c.bh, c.bf, c.kp, c.th, by rw [wipe_length, wipeS_len, c.ln], fun i w e => ?_, c.mu, c.nd⟩
  rcases wipeS_get e with q | ⟨q, r⟩
  · subst q; trivial
  · rw [wipe_get, if_neg (fun z => q z.1)]
    exact c.sl i w r
/-- back from a comprehension's block: the slots as they were -/
theorem Cta.unwipe {σ σ' : L2.St} {δ' : List Sl} {H B H' B' : Hp} {μ' : Mus} (c : Cta K g δ μ σ H B) (c' : Cta K g δ' μ' σ' H' B') (s : Same B B') : Cta K g δ μ' σ H' B' :=
  ⟨c'.b0, c'.bh, c'.bf, c'.kp, c'.th, c.ln, fun i w e => slot_same s (c.sl i w e), c'.mu, c'.nd⟩
/-- one element: the list so far stands behind all else -/
def Elt (K : PySem.W.Frag) (g : Gr) (δ : List Sl) (tt : TT) (te : TE) (μ : Mus) (acc : List Sl) (Iv : List Sl → Mus → Prop) : Prop :=
  ∀ Dl, EvB K g δ (μ ++ [(Dl, .lis acc)]) tt fun b μ2 => ∃ μ3, μ2 = μ3 ++ [(Dl, .lis acc)] ∧ (b = true → Ev K g δ μ2 te fun w μ4 => ∃ μ5, μ4 = μ5 ++ [(Dl, .lis acc)] ∧ Iv (acc ++ [w]) μ5) ∧ (b = false → Iv acc μ3)
theorem last_get {α : Type} (l : List α) (x : α) : (l ++ [x])[l.length]? = some x := by simp
theorem last_set {α : Type} (l : List α) (x y : α) : (l ++ [x]).set l.length y = l ++ [y] := by
  rw [List.set_append_right _ _ (Nat.le_refl _), Nat.sub_self]; rfl
def LcI (K : PySem.W.Frag) (g : Gr) (δ : List Sl) (B0 : Hp) (Dl : Addr) (n : Nat) (Iv : List Sl → Mus → Prop) (σ : L2.St) (H : Hp) : Prop :=
  ∃ acc μ' B', acc.length ≤ n ∧ Iv acc μ' ∧ Cta K g δ (μ' ++ [(Dl, .lis acc)]) σ H B' ∧ Same B0 B'
theorem elt_run {σ σ2 : L2.St} {δ2 : List Sl} {H0 B0 H B : Hp} {μ0 : Mus} {Dl : Addr} {tt : TT} {te : TE} {acc : List Sl} {μ' : Mus} {n : Nat} {Iv : List Sl → Mus → Prop} (c0 : Cta K g δ μ0 σ H0 B0) (c : Cta K g δ2 (μ' ++ [(Dl, .lis acc)]) σ2 H B) (s : Same B0 B) (hn : acc.length ≤ n) (hz : n < 90000) (h : Elt K g δ2 tt te μ' acc Iv) :
    tt σ2 H fun b H3 => if b = true then te σ2 H3 fun y H4 => ∃ ac, H4 Dl = some (.lst ac) ∧ ac.length < sizeLine ∧ LcI K g δ B0 Dl (n + 1) Iv σ (upd H4 Dl (.lst (ac ++ [y]))) else LcI K g δ B0 Dl (n + 1) Iv σ H3 := by
  refine h Dl σ2 H B c _ fun b μ2 H3 B3 h3 c3 s3 => ?_
  obtain ⟨μ3, e3, ht, hf⟩ := h3
  subst e3
  cases b with
  | true =>
    refine ht rfl σ2 H3 B3 c3 _ fun w μ4 v H4 B4 h4 c4 s4 r4 => ?_
    obtain ⟨μ5, e5, hi⟩ := h4
    subst e5
    obtain ⟨ac, a1, a2⟩ := c4.lis (last_get μ5 _)
    have c5 := c4.write (last_get μ5 _) (o := .lst (ac ++ [v])) (m' := .lis (acc ++ [w])) ⟨_, upd_same, a2.snoc r4⟩
    rw [last_set] at c5
    have s5 : Same B0 B4 := s.trans (s3.trans s4)
    exact ⟨ac, a1, sz_lt (by have := a2.len; omega), acc ++ [w], μ5, B4, by rw [List.length_append, List.length_singleton]; omega, hi, c0.unwipe c5 s5, s5⟩
  | false =>
    have s5 : Same B0 B3 := s.trans s3
    exact ⟨acc, μ3, B3, by omega, hf rfl, c0.unwipe c3 s5, s5⟩
/-- what a comprehension over n things asks -/
def LcT (K : PySem.W.Frag) (g : Gr) (n : Nat) (μ : Mus) (k : Sl → Mus → Prop) (Iv : Nat → List Sl → Mus → Prop) (body : Nat → List Sl → Mus → (List Sl → Mus → Prop) → Prop) : Prop :=
  n < 90000 ∧ Iv 0 [] μ ∧ (∀ i acc μ', i < n → Iv i acc μ' → body i acc μ' (Iv (i + 1))) ∧ ∀ acc μ', Iv n acc μ' → ∀ p, k (.va (.ref p)) (μ' ++ [(p, .lis acc)])
theorem lcI_start {σ : L2.St} {H B : Hp} {Dl : Addr} {Iv : List Sl → Mus → Prop} (c : Cta K g δ μ σ H B) (hD : H Dl = none) (h : Iv [] μ) : LcI K g δ B Dl 0 Iv σ (upd H Dl (.lst [])) :=
  ⟨[], μ, B, Nat.le_refl _, h, c.newM hD ⟨[], upd_same, .nil⟩, fun _ _ e => e⟩
theorem ev_lcL {tl : TE} {tt : TT} {te : TE} {j : Nat} {vs : List Nat} (hj : j ∈ vs) (h : Ev K g δ μ tl fun w μ1 => ∃ ds, w = dL ds ∧ ∃ Iv, LcT K g ds.length μ1 k Iv fun i acc μ' Jv => ∀ d, ds[i]? = some d → Elt K g ((wipeS δ vs).set j (.da d)) tt te μ' acc Jv) : Ev K g δ μ (tLc (iList K tl) (gName j) tt te vs) k := fun σ H B c Q hq =>
  h σ H B c _ fun w μ1 v H1 B1 h1 c1 s1 r1 => by
    obtain ⟨ds, e, Iv, hz, i0, is, id⟩ := h1
    subst e
    obtain ⟨p, xs, rfl, h2, h3⟩ := dp_lst r1
    refine ⟨p, rfl, ⟨xs, same_l c1.bh h2⟩, fun Dl hD => lc_list (xs := xs) (fun i H => LcI K g δ B1 Dl i (Iv i) σ H) (lcI_start c1 hD i0) (fun i H' _ ⟨acc, μ', B', _, _, c', s'⟩ => same_l c'.bh (same_l s' h2)) (fun i x H' hx ⟨acc, μ', B', ha, hi, c', s'⟩ => ?_) (fun H' ⟨acc, μ', B', ha, hi, c', s'⟩ => ?_)⟩
    · obtain ⟨d, hd, hr⟩ := DpAll.get' h3 hx
      have hil := (List.getElem?_eq_some_iff.mp hd).1
      exact ⟨wipe_set hj, elt_run c1 ((c'.wipe vs).store (i := j) (w := .da d) (dp_same s' hr)) s' ha (by omega) (is i acc μ' hil hi d hd)⟩
    · rw [DpAll.len h3] at hi
      exact hq _ _ _ _ _ (id acc μ' hi Dl) c' (s1.trans s') rfl
theorem ev_lcT {tl : TE} {tt : TT} {te : TE} {j : Nat} {vs : List Nat} (hj : j ∈ vs) (h : Ev K g δ μ tl fun w μ1 => ∃ ds, w = dT ds ∧ ∃ Iv, LcT K g ds.length μ1 k Iv fun i acc μ' Jv => ∀ d, ds[i]? = some d → Elt K g ((wipeS δ vs).set j (.da d)) tt te μ' acc Jv) : Ev K g δ μ (tLc (iTup K tl) (gName j) tt te vs) k := fun σ H B c Q hq =>
  h σ H B c _ fun w μ1 v H1 B1 h1 c1 s1 r1 => by
    obtain ⟨ds, e, Iv, hz, i0, is, id⟩ := h1
    subst e
    obtain ⟨p, xs, rfl, h2, h3⟩ := dp_tup r1
    refine ⟨p, rfl, ⟨xs, same_t c1.bh h2⟩, fun Dl hD => lc_tup (xs := xs) (fun i H => LcI K g δ B1 Dl i (Iv i) σ H) (lcI_start c1 hD i0) (fun i H' _ ⟨acc, μ', B', _, _, c', s'⟩ => same_t c'.bh (same_t s' h2)) (fun i x H' hx ⟨acc, μ', B', ha, hi, c', s'⟩ => ?_) (fun H' ⟨acc, μ', B', ha, hi, c', s'⟩ => ?_)⟩
    · obtain ⟨d, hd, hr⟩ := DpAll.get' h3 hx
      have hil := (List.getElem?_eq_some_iff.mp hd).1
      exact ⟨wipe_set hj, elt_run c1 ((c'.wipe vs).store (i := j) (w := .da d) (dp_same s' hr)) s' ha (by omega) (is i acc μ' hil hi d hd)⟩
    · rw [DpAll.len h3] at hi
      exact hq _ _ _ _ _ (id acc μ' hi Dl) c' (s1.trans s') rfl
theorem ev_lcR1 {ta : TA} {tt : TT} {te : TE} {j : Nat} {vs : List Nat} (hj : j ∈ vs) (h : EvA K g δ μ ta fun ws μ1 => ∃ hi : Int, ws = [dI hi] ∧ small hi ∧ ∃ Iv, LcT K g hi.toNat μ1 k Iv fun i acc μ' Jv => Elt K g ((wipeS δ vs).set j (dI i)) tt te μ' acc Jv) : Ev K g δ μ (tLc (iRng1 ta) (gName j) tt te vs) k := fun σ H B c Q hq =>
  h σ H B c _ fun ws μ1 us H1 B1 h1 c1 s1 r1 => by
    obtain ⟨hi, e, sm, Iv, hz, i0, is, id⟩ := h1
    subst e
    obtain ⟨v, rfl, r2⟩ := rl1 r1
    refine ⟨hi, by rw [dp_int r2], sm.1, sm.2, fun Dl hD => lc_range (fun i H => LcI K g δ B1 Dl i (Iv i) σ H) (lcI_start c1 hD i0) (fun i H' hil ⟨acc, μ', B', ha, hi', c', s'⟩ => ?_) (fun H' ⟨acc, μ', B', ha, hi', c', s'⟩ => ?_)⟩
    · have e0 : (0 : Int) + (i : Int) = i := Int.zero_add _
      rw [e0]
      exact ⟨wipe_set hj, elt_run c1 ((c'.wipe vs).store (i := j) (v := .int i) (w := dI i) (.int _)) s' ha (by omega) (is i acc μ' hil hi')⟩
    · exact hq _ _ _ _ _ (id acc μ' hi' Dl) c' (s1.trans s') rfl
theorem ev_lcR2 {ta : TA} {tt : TT} {te : TE} {j : Nat} {vs : List Nat} (hj : j ∈ vs) (h : EvA K g δ μ ta fun ws μ1 => ∃ lo hi : Int, ws = [dI lo, dI hi] ∧ small lo ∧ small hi ∧ ∃ Iv, LcT K g (hi - lo).toNat μ1 k Iv fun i acc μ' Jv => Elt K g ((wipeS δ vs).set j (dI (lo + i))) tt te μ' acc Jv) : Ev K g δ μ (tLc (iRng2 ta) (gName j) tt te vs) k := fun σ H B c Q hq =>
  h σ H B c _ fun ws μ1 us H1 B1 h1 c1 s1 r1 => by
    obtain ⟨lo, hi, e, sm, sm2, Iv, hz, i0, is, id⟩ := h1
    subst e
    obtain ⟨v, v', rfl, r2, r3⟩ := rl2 r1
    refine ⟨lo, hi, by rw [dp_int r2, dp_int r3], ⟨sm.1, sm.2, sm2.1, sm2.2⟩, fun Dl hD => lc_range (fun i H => LcI K g δ B1 Dl i (Iv i) σ H) (lcI_start c1 hD i0) (fun i H' hil ⟨acc, μ', B', ha, hi', c', s'⟩ => ?_) (fun H' ⟨acc, μ', B', ha, hi', c', s'⟩ => ?_)⟩
    · exact ⟨wipe_set hj, elt_run c1 ((c'.wipe vs).store (i := j) (v := .int (lo + i)) (w := dI (lo + i)) (.int _)) s' ha (by omega) (is i acc μ' hil hi')⟩
    · exact hq _ _ _ _ _ (id acc μ' hi' Dl) c' (s1.trans s') rfl
theorem eb_yes {kb : Bool → Mus → Prop} (h : kb true μ) : EvB K g δ μ tYes kb := fun σ H B c Q hq => hq true μ H B h c fun _ _ e => e
end
end De
end
section
set_option Elab.async false
set_option linter.all false
set_option maxRecDepth 100000
set_option maxHeartbeats 4000000
/-! set(t) and sorted(s), t a tuple of texts: by HandS.SetTxt0's adding and HandS.Set's walk. -/
namespace De
open PySem L2 PySem.Spec PyProof.Rows PySem.Froz
theorem perm_of_count {A : Type} [DecidableEq A] : ∀ {xs ts : List A}, (∀ x, xs.count x ≤ ts.count x) → ts.length ≤ xs.length → xs.Perm ts
  | [], ts, _, hl => by
    have : ts = [] := List.eq_nil_of_length_eq_zero (by simpa using hl)
    rw [this]
  | x :: xs, ts, h, hl => by
    have h1 := h x
    rw [List.count_cons_self] at h1
    have hx : x ∈ ts := List.count_pos_iff.mp (by omega)
    have p := List.perm_cons_erase hx
    refine List.Perm.trans (.cons x (perm_of_count (xs := xs) (ts := ts.erase x) (fun y => ?_) ?_)) p.symm
    · have h2 := h y
      have h3 := p.count_eq y
      rw [List.count_cons] at h2 h3
      omega
    · rw [List.length_erase_of_mem hx]
      rw [List.length_cons] at hl
      omega
/-- the texts l stand in the set at a -/
def TxSet (P : Program) (w : World) (h : Heap) (a : Addr) (l : List Str) : Prop :=
  ∃ D : SD, h.get? a = some (sObj "set" D) ∧ TxOk P w D l ∧ l.Nodup ∧ Ris D.2.2.place.toList ∧ (w.params.followText "set-order" = true ∨ D.2.2.led = true)
def freshSet (w : World) : SD := (#[], 0, .fresh 0 0 (!w.params.followText "set-order"))
section
variable {P : Program} {w : World} {A : Around} {E : Value → Shared → Prop} {s : Shared}
theorem TxSet.kept {h h' : Heap} {a : Addr} {l : List Str} (x : TxSet P w h a l) (k : ∀ o, h.get? a = some o → h'.get? a = some o) : TxSet P w h' a l :=
  let ⟨D, h1, r⟩ := x
  ⟨D, k _ h1, r⟩
theorem txSet_fresh {h : Heap} {a : Addr} (e : h.get? a = some (sObj "set" (freshSet w))) : TxSet P w h a [] := by
  refine ⟨freshSet w, e, TxOk.nil (by rfl), List.nodup_nil, List.Pairwise.nil, ?_⟩
  show _ ∨ (!w.params.followText "set-order") = true
  cases w.params.followText "set-order"
  · exact .inr rfl
  · exact .inl rfl
theorem ris_addTx {hh : Int} {v : Value} {D : SD} (r : Ris D.2.2.place.toList) : Ris (addTx hh v D).2.2.place.toList ∧ (addTx hh v D).2.2.led = D.2.2.led := by
  have r1 := layNew_ris D.2.2 D.1 hh v r
  have r2 := layNew_led D.2.2 D.1 hh v
  unfold addTx
  generalize layNew D.2.2 D.1 hh v = L at r1 r2 ⊢
  obtain ⟨es1, t1, wd, gv⟩ := L
  dsimp only at r1 r2 ⊢
  have key : ∀ t2 : SetTable, Ris t2.place.toList → t2.led = D.2.2.led → Ris (tailTx D.2.1 es1 t2 wd).2.2.place.toList ∧ (tailTx D.2.1 es1 t2 wd).2.2.led = D.2.2.led := fun t2 q1 q2 => by
    unfold tailTx
    split
    · exact ⟨relayAll_ris _ _ _, (relayAll_led _ _ _).trans q2⟩
    · exact ⟨q1, q2⟩
  split
  · exact key _ r1 r2
  · exact key _ r1 r2
/-- one more text, there or not -/
theorem txSet_add {a : Addr} {l : List Str} {k : Str} {u : Tok} {Q : Bool → Shared → Prop} (x : TxSet P w s.heap a l) (hb : l.length + 1 < scanBound)
    (q : ∀ (b : Bool) (h' : Heap), Heap.SameBut a s.heap h' → TxSet P w h' a (if k ∈ l then l else k :: l) → Q b { s with heap := h' }) : wpAny (model P w) A (setAddHashed a (.str k u) (hashStr w k)) Q E s := by
  obtain ⟨D, h1, F, nd, r, hl⟩ := x
  by_cases hk : k ∈ l
  · obtain ⟨es, ep, t⟩ := D
    have hel : ElemsOf (strKind P w) es.toList := F.el
    have hb0 : es.size < scanBound := by
      have e : es.size = l.length := F.sz
      omega
    have hf : t.fits es.size = true := F.fit
    obtain ⟨j, hj⟩ : ∃ j, List.findIdx? (fun e => (strKind P w).is k e.2) es.toList = some j := by
      cases z : List.findIdx? (fun e => (strKind P w).is k e.2) es.toList with
      | some j => exact ⟨j, rfl⟩
      | none =>
        obtain ⟨e, he, q⟩ := (F.mem k).mp hk
        have := List.findIdx?_eq_none_iff.mp z e he
        rw [q] at this
        cases this
    unfold setAddHashed setAddHashedIn
    refine wpAny_holding (wpAny_bind (wpAny_setState_of h1 rfl hf ?_))
    dsimp only
    rw [byScan_of rfl hb0 hel]
    simp only [↓reduceIte]
    unfold setAddByScan
    refine wpAny_bind (wpAny_bind (wpAny_rule (wpAny_bind (wpAny_setScan_of (knd := strKind P w) (k := k) (is_str k u) h1 rfl hf hel ?_))))
    rw [hj]
    dsimp only
    refine wpAny_pure (wpAny_pure ?_)
    refine q _ s.heap (Heap.SameBut.refl a s.heap) ?_
    rw [if_pos hk]
    exact ⟨(es, ep, t), h1, F, nd, r, hl⟩
  · refine add_x h1 F hk hb ?_
    refine q true _ (Heap.SameBut.update s.heap a _) ?_
    rw [if_neg hk]
    obtain ⟨r1, r2⟩ := ris_addTx (hh := hashStr w k) (v := .str k u) r
    exact ⟨_, get_upd _ h1 rfl, add_ok u F, List.nodup_cons.mpr ⟨hk, nd⟩, r1, by rw [r2]; exact hl⟩
/-- the texts met among the first i -/
def SeenS (ss : List Str) (i : Nat) (l : List Str) : Prop := l.length ≤ i ∧ ∀ k, k ∈ l ↔ k ∈ ss.take i
theorem SeenS.next {ss l : List Str} {i : Nat} {k : Str} (x : SeenS ss i l) (e : ss[i]? = some k) : SeenS ss (i + 1) (if k ∈ l then l else k :: l) := by
  obtain ⟨h1, h2⟩ := x
  have e2 : ss.take (i + 1) = ss.take i ++ [k] := by rw [List.take_add_one, e]; rfl
  unfold SeenS
  rw [e2]
  by_cases hk : k ∈ l
  · rw [if_pos hk]
    refine ⟨by omega, fun z => ?_⟩
    rw [List.mem_append, List.mem_singleton, ← h2 z]
    exact ⟨.inl, fun q => q.elim id fun q => q ▸ hk⟩
  · rw [if_neg hk]
    refine ⟨by rw [List.length_cons]; omega, fun z => ?_⟩
    rw [List.mem_append, List.mem_singleton, ← h2 z, List.mem_cons]
    exact Or.comm
theorem txs_loop {I : Addr} {fp wr : List Addr} {G : Array GenState → Array GenState → Prop} {n : Nat} {Pv : Nat → Value → Prop} {St : Nat → Shared → Prop} {R : Result → Shared → Prop}
    (W : WalksS P w A.in1 I fp wr G n Pv St) {T : Addr} (hT : T ∉ fp) {ss : List Str} (hn : n = ss.length) (hb : ss.length + 1 < scanBound) (hv : ∀ i v, Pv i v → ∃ k t, ss[i]? = some k ∧ v = .str k t)
    (fin : ∀ s' l, Moved (T :: wr) G s s' → SeenS ss n l → TxSet P w s'.heap T l → R (.ok (.ret .none)) s') :
    ∀ (m i : Nat) (s0 : Shared) (l : List Str), i + m = n → St i s0 → Moved (T :: wr) G s s0 → SeenS ss i l → TxSet P w s0.heap T l → codeAny (model P w) A (.builtin "set.update.loop" ⟨[.ref T, .ref I], []⟩) R s0 := by
  have hw : T ∉ wr := fun z => hT (W.sub _ z)
  intro m
  induction m with
  | zero =>
    intro i s0 l hi hst mv sn ts
    obtain rfl : i = n := by omega
    refine codeAny_builtin F.entry_set_update_loop ?_
    rw [Around.under_plainId F.plain_set_update_loop _]
    show wpAny _ A.in1 (pyNext (.ref I) >>= _) _ _ s0
    refine wpAny_bind (W.done s0 _ _ hst fun s2 hm => ?_)
    show wpAny _ A.in1 (ret Value.none) _ _ s2
    refine wpAny_pure (fin s2 l (mv.trans W.gtrans (hm.mono fun b z => List.mem_cons_of_mem _ z)) sn (ts.kept fun o e => hm.heap T o hw e))
  | succ m ih =>
    intro i s0 l hi hst mv sn ts
    refine codeAny_builtin F.entry_set_update_loop ?_
    rw [Around.under_plainId F.plain_set_update_loop _]
    show wpAny _ A.in1 (pyNext (.ref I) >>= _) _ _ s0
    refine wpAny_bind (W.item i s0 _ _ (by omega) hst fun v s2 hP hst2 hm => ?_)
    obtain ⟨k, t, hk, rfl⟩ := hv i v hP
    show wpAny _ A.in1 (holding [Value.str k t] (setAdd T (.str k t)) >>= _) _ _ s2
    refine wpAny_bind (wpAny_holding ?_)
    unfold setAdd
    refine wpAny_holding (wpAny_bind ((strKind P w).pyHash (is_str k t) ?_))
    have ts2 : TxSet P w s2.heap T l := ts.kept fun o e => hm.heap T o hw e
    refine txSet_add (s := { s2 with toks := s2.toks + 1 }) ts2 (by have := sn.1; omega) fun b h3 sb ts3 => ?_
    have mv2 := mv.trans W.gtrans (hm.mono (wr' := T :: wr) fun b z => List.mem_cons_of_mem _ z)
    refine wpAny_pure ⟨plainId_quiet F.plain_set_update_loop _, ih (i + 1) _ _ (by omega) (W.frame _ s2 _ _ hst2 (Nat.le_succ _) fun b hbf o e => ?_) ?_ (sn.next hk) ts3⟩
    · exact (sb.2 b fun z => hT (z ▸ hbf)).trans e
    · exact mv2.then_heap (Nat.le_succ _) fun b o hb2 e => (sb.2 b fun z => hb2 (z ▸ List.mem_cons_self)).trans e

theorem strs_ix : ∀ {vs : List Value} {ss : List Str} {i : Nat} {v : Value}, StrsAre vs ss → vs[i]? = some v → ∃ k t, ss[i]? = some k ∧ v = .str k t
  | _, _, _, _, .nil, h => by simp at h
  | _, _, 0, _, .cons x t r, h => by
    simp at h
    exact ⟨x, t, rfl, h.symm⟩
  | _, _, i + 1, _, .cons x t r, h => by
    obtain ⟨k, u, e1, e2⟩ := strs_ix (i := i) r (by simpa using h)
    exact ⟨k, u, by simpa using e1, e2⟩
/-- the new set's object -/
abbrev newSetO (w : World) : Obj := sObj "set" (freshSet w)
theorem txs_call {l : Addr} {its : Array Value} {ss : List Str} {Q : Value → Shared → Prop} (hh : A.handled = none) (tp : s.heap.IsTuple l its) (hi : StrsAre its.toList ss) (hb : ss.length + 1 < scanBound)
    (fin : ∀ (h' : Heap) (tk : Nat) (m : List Str), TxSet P w h' s.heap.objs.size m → (∀ k, k ∈ m ↔ k ∈ ss) → m.length ≤ ss.length → (∀ b o, s.heap.get? b = some o → h'.get? b = some o) → Q (.ref s.heap.objs.size) { s with heap := h', toks := tk }) :
    wpAny (model P w) A (call (.type "set") [.ref l]) Q E s := by
  have size : its.size = ss.length := by
    have e := hi.length
    rw [Array.length_toList] at e
    exact e
  obtain ⟨c, tl, hmro⟩ := F.called_set.mro
  have q1 := F.called_set.made
  have q2 := F.called_set.sub
  have q3 := F.called_set.notType
  have q4 := F.called_set.canCreate
  have q5 := F.typeCall_set_1 (.ref l)
  refine wpAny_call (codeAny_of_tree ?_)
  show wpAny _ _ (callAny (.type "set") _) _ _ _
  refine wpAny_pure ⟨Code.quiet_builtin _ (by decide +kernel), codeAny_builtin F.entry_type_call ?_⟩
  rw [Around.under_plain (weight_type_call_type "set" [.ref l] []) rfl]
  repeat (any_goals (first | assumption | wp_step))
  let s1 : Shared := { s with heap := s.heap.push (newSetO w) }
  refine codeAny_mono (code_set_led1 (.ref l) (E := E) (Q₁ := fun obj s₁ => obj = .ref s.heap.objs.size ∧ s₁ = s1) ⟨rfl, rfl⟩) fun r s₁ hr => ?_
  cases r with
  | error e => exact hr
  | ok fl =>
    cases fl with
    | ret obj =>
      obtain ⟨e1, e2⟩ := hr
      subst e1 e2
      have atS : (s.heap.push (newSetO w)).get? s.heap.objs.size = some (newSetO w) := Heap.get?_push_size _ rfl
      have tyS : Shared.TypeIs s1 (.ref s.heap.objs.size) "set" := ⟨_, atS, rfl⟩
      have q6 := F.called_set.init.lookup
      have q7 := F.called_set.init.bind (.ref s.heap.objs.size)
      repeat (any_goals (first | assumption | wp_step))
      refine codeAny_mono (codeAny_call_builtin (R := wants (fun r s₂ => r = .none ∧ ∃ h' tk m, s₂ = { s with heap := h', toks := tk } ∧ TxSet P w h' s.heap.objs.size m ∧ (∀ k, k ∈ m ↔ k ∈ ss) ∧ m.length ≤ ss.length ∧
          ∀ b o, s.heap.get? b = some o → h'.get? b = some o) E) F.called_set.init.plain F.entry_set_init (check_set_init_1 tyS ?_)) fun r₂ s₂ hr₂ => ?_
      · obtain ⟨ob, hob, hcl, n0, hda⟩ := tp
        obtain ⟨oc, od, oda, osl⟩ := ob
        simp only at hcl hda
        subst hcl hda
        have hob1 : (s.heap.push (newSetO w)).get? l = some { cls := .type "tuple", dict := od, data := .seq its n0, slots := osl } := Heap.get?_push_of_some _ hob
        have sub1 := F.sub_tuple_set
        have sub2 := F.sub_tuple_frozenset
        have ned : (Value.type "tuple" == Value.type "dict") = false := by decide
        have tp1 : (s.heap.push (newSetO w)).IsTuple l its := ⟨_, hob1, rfl, n0, rfl⟩
        show wpAny _ _ _ _ _ { s with heap := s.heap.push (newSetO w) }
        unfold Builtin.«set.__init__» noKeywords Builtin.Frozenset.updateFrom
        generalize hPI : pyIter = PI
        wp_walk
        subst hPI
        refine wpAny_pyIter_tuple tp1 ?_
        refine wpAny_bind (wpAny_runValue ?_)
        have ltl : l < s.heap.objs.size := Heap.lt_size hob
        have sz1 : (s.heap.push (newSetO w)).objs.size = s.heap.objs.size + 1 := Heap.size_push ..
        have hh3 : A.in1.in1.in1.handled = none := by simp [hh]
        have ne1 : l ≠ (s.heap.push (newSetO w)).objs.size := by rw [sz1]; exact Nat.ne_of_lt (Nat.lt_succ_of_lt ltl)
        have nin : s.heap.objs.size ∉ [(s.heap.push (newSetO w)).objs.size, l] := by
          rw [sz1]
          simp only [List.mem_cons, List.not_mem_nil, or_false, not_or]
          exact ⟨Nat.ne_of_lt (Nat.lt_succ_self _), Nat.ne_of_gt ltl⟩
        have val : ∀ (i : Nat) (v : Value), its[i]? = some v → ∃ k t, ss[i]? = some k ∧ v = .str k t := fun i v hv => strs_ix hi (by rw [Array.getElem?_toList]; exact hv)
        refine txs_loop ((Walks.tuple hh3 _ l ne1 its).toS) nin size hb val (fun s' m mv sn ts => ?_) its.size 0 _ [] (Nat.zero_add _) ⟨⟨_, Heap.get?_push_size _ rfl, rfl, rfl⟩, tp1.push _⟩ (Moved.refl fun _ => rfl) ⟨Nat.le_refl _, fun k => by simp⟩
          (txSet_fresh (Heap.get?_push_of_some _ atS))
        obtain ⟨h', g2, d', tk', os'⟩ := s'
        have eg : g2 = s.gens := mv.gens
        have ed : d' = s.drawn := mv.drawn
        have eo : os' = s.os := mv.os
        subst eg ed eo
        show wpAny _ _ _ _ _ _
        refine wpAny_pure ?_
        show wpAny _ _ (ret Value.none) _ _ _
        refine wpAny_pure ⟨rfl, h', tk', m, rfl, ts, fun k => ?_, by rw [← size]; exact sn.1, fun b o e => ?_⟩
        · rw [sn.2 k, size, List.take_length]
        · have b0 : b < s.heap.objs.size := Heap.lt_size e
          refine mv.heap b o ?_ (Heap.get?_push_of_some _ (Heap.get?_push_of_some _ e))
          rw [sz1]
          simp only [List.mem_cons, List.not_mem_nil, or_false, not_or]
          exact ⟨Nat.ne_of_lt b0, Nat.ne_of_lt (Nat.lt_succ_of_lt b0)⟩
      · cases r₂ with
        | error e => exact hr₂
        | ok fl₂ =>
          cases fl₂ with
          | ret r =>
            obtain ⟨e1, h', tk, m, e2, ts, hm, hl, hk⟩ := hr₂
            subst e1 e2
            repeat (any_goals (first | assumption | wp_step))
            exact fin _ _ _ ts hm hl hk
          | _ => exact hr₂.elim
    | _ => exact hr.elim
end
end De
end
section
set_option Elab.async false
set_option linter.all false
set_option maxRecDepth 100000
set_option maxHeartbeats 4000000
namespace De
open PySem L2 PySem.Spec PyProof.Rows PySem.Froz
/-- texts by their code points -/
def ltS (x y : Str) : Bool := decide (x.cps.toList < y.cps.toList)
theorem str_ext {x y : Str} (h : x.cps.toList = y.cps.toList) : x = y := by
  cases x; cases y
  simp only at h
  congr
  exact Array.toList_inj.mp h
theorem ltS_ord : Ord ltS where
  irr := fun x => decide_eq_false (List.lt_irrefl _)
  tr := fun x y z h1 h2 => decide_eq_true (List.lt_trans (of_decide_eq_true h1) (of_decide_eq_true h2))
  tot := fun x y h => by
    have hne : x.cps.toList ≠ y.cps.toList := fun e => h (str_ext e)
    by_cases h1 : x.cps.toList < y.cps.toList
    · exact .inl (decide_eq_true h1)
    · by_cases h2 : y.cps.toList < x.cps.toList
      · exact .inr (decide_eq_true h2)
      · exact absurd (List.le_antisymm (List.not_lt.mp h2) (List.not_lt.mp h1)) hne
theorem rising_asc : ∀ (p : Str) (l : List Str), risingS p l = true → (p :: l).Nodup → Asc ltS (p :: l)
  | p, [], _, _ => by simp [Asc]
  | p, x :: r, h, n => by
    have h' : (!ltCps x.cps.toList p.cps.toList && risingS x r) = true := h
    rw [Bool.and_eq_true] at h'
    obtain ⟨h1, h2⟩ := h'
    obtain ⟨n1, n2⟩ := List.nodup_cons.mp n
    have ih := rising_asc x r h2 n2
    have lt1 : ltS p x = true := by
      rcases ltS_ord.tot p x (fun e => n1 (e ▸ List.mem_cons_self)) with q | q
      · exact q
      · have : ltCps x.cps.toList p.cps.toList = true := by rw [ltCps_eq]; exact q
        rw [this] at h1
        cases h1
    refine List.pairwise_cons.mpr ⟨fun y hy => ?_, ih⟩
    rcases List.mem_cons.mp hy with e | e
    · rw [e]; exact lt1
    · exact ltS_ord.tr _ _ _ lt1 ((List.pairwise_cons.mp ih).1 y e)
theorem sorted_asc : ∀ {l : List Str}, sortedS l = true → l.Nodup → Asc ltS l
  | [], _, _ => List.Pairwise.nil
  | p :: l, h, n => rising_asc p l h n

/-! ### the calls -/
def TxO (P : Program) (w : World) (a : Addr) (m : List Str) : HO := .ext fun h => TxSet P w h a m
theorem txO_new {P : Program} {w : World} {H : Hp} {h : Heap} {a : Addr} {m : List Str} (x : TxSet P w h a m) : ObjOk P w H h a (TxO P w a m) := by
  obtain ⟨D, e, r⟩ := id x
  exact ⟨x, ⟨_, e⟩, fun h1 h2 p k => p.kept k⟩
def rSetTx (K : PySem.W.Frag) (P : Program) (w : World) : List V → Hp → VK → Prop := fun xs H Q => ∃ (a : Addr) (ss : List Str), xs = [.ref a] ∧ SqT K H a (ss.map V.str) ∧ ss.length ≤ 1000 ∧
  ∀ p m, H p = none → (∀ k, k ∈ m ↔ k ∈ ss) → m.length ≤ ss.length → Q (.ref p) (upd H p (TxO P w p m))
def rSortedTx (P : Program) (w : World) : List V → Hp → VK → Prop := fun xs H Q => ∃ (a : Addr) (m : List Str), xs = [.ref a] ∧ H a = some (TxO P w a m) ∧ m.length < 64 ∧
  ∀ p, H p = none → Q (.ref p) (upd H p (.lst ((dist ltS m).map V.str)))
section
variable {X : Cx}
theorem strs_of_vals : ∀ {ss : List Str} {us : List Value}, Vals (ss.map V.str) us → StrsAre us ss
  | [], _, .nil => .nil
  | _ :: _, _, .cons r t => by
    obtain ⟨tk, e⟩ := r
    subst e
    exact .cons _ tk (strs_of_vals t)
theorem call_setTx (hc : X.calm = true) : CallR X (.type "set") (rSetTx X.K X.prog X.w) := by
  intro pins s σ H xs us Q I r h
  obtain ⟨a, ss, rfl, ht, hl, q⟩ := h
  rw [Vals.ref1 r]
  obtain ⟨its, rv, tp, _⟩ := I.tuple ht
  have hz : (1002 : Nat) < scanBound := by decide
  refine txs_call (P := X.prog) (w := X.w) (ss := ss) (I.ok.hd hc) (its := its.toArray) ?_ (by simpa using strs_of_vals rv) (by omega) fun h' tk m x hm hle k => ?_
  · obtain ⟨o, h1, h2, n, h3⟩ := tp
    exact ⟨o, h1, h2, n, h3⟩
  · exact ⟨.ref s.heap.objs.size, upd H s.heap.objs.size (TxO X.prog X.w s.heap.objs.size m), I.laid (t' := tk) k (Nat.le_refl _) (txO_new x), rfl, q _ m (I.hok.fresh (Nat.le_refl _)) hm hle⟩
theorem elems_strs {P : Program} {w : World} {D : SD} {l : List Str} (F : TxOk P w D l) (nd : l.Nodup) : ∃ ms : List Str, StrsAre (D.1.toList.map (·.2)) ms ∧ ms.Perm l := by
  have all : ∀ v, v ∈ D.1.toList.map (·.2) → ∃ x t, v = Value.str x t := fun v hv => by
    obtain ⟨e, he, q⟩ := List.mem_map.mp hv
    obtain ⟨⟨k, h1, _⟩, _⟩ := F.el e he
    obtain ⟨t, h2⟩ := Value.isStrOf_shape (x := k) (v := e.2) h1
    exact ⟨k, t, q ▸ h2⟩
  have sa := strsAre_map _ all
  refine ⟨_, sa, ?_⟩
  have hlen : ((D.1.toList.map (·.2)).map strOf).length = l.length := by
    rw [List.length_map, List.length_map, Array.length_toList]
    exact F.sz
  refine (perm_of_count (fun x => ?_) (Nat.le_of_eq hlen)).symm
  by_cases hx : x ∈ l
  · have h1 : l.count x ≤ 1 := List.nodup_iff_count.mp nd x
    have h2 : 0 < ((D.1.toList.map (·.2)).map strOf).count x := by
      refine List.count_pos_iff.mpr ?_
      obtain ⟨e, he, q⟩ := (F.mem x).mp hx
      obtain ⟨t, h2⟩ := Value.isStrOf_shape (x := x) (v := e.2) q
      refine List.mem_map.mpr ⟨e.2, List.mem_map.mpr ⟨e, he, rfl⟩, ?_⟩
      rw [h2]
      rfl
    omega
  · rw [List.count_eq_zero_of_not_mem hx]
    exact Nat.zero_le _
theorem call_sortedTx (hc : X.calm = true) : CallR X (.builtin "sorted") (rSortedTx X.prog X.w) := by
  intro pins s σ H vs us Q I r h
  obtain ⟨a, m, rfl, ha, h64, q⟩ := h
  obtain ⟨D, e1, F, nd, ris, led⟩ := (I.hok a _ ha).1
  rw [Vals.ref1 r]
  obtain ⟨ms, sa, pm⟩ := elems_strs F nd
  have hsz : D.1.size < scanBound := by
    have e : D.1.size = m.length := F.sz
    have hz : (64 : Nat) < scanBound := by decide
    omega
  refine Calls.call_function_entry kind_sorted plain_sorted entry_sorted (args_sorted1 _) ?_
  unfold Builtin.«sorted»
  refine wpAny_bind (m := checkCount "sorted" 1 1 _) (wpAny_pure ?_)
  refine wpAny_bind (collect_set (A := X.A.in1) (I.ok.hd hc) ⟨_, e1, rfl, rfl⟩ F.fit hsz ris led fun s1 out k1 hz g1 o1 po => ?_)
  obtain ⟨ns, sb, pn⟩ : ∃ ns, StrsAre out ns ∧ ns.Perm m := by
    have all : ∀ v, v ∈ out → ∃ x t, v = Value.str x t := fun v hv => sa.all v (po.mem_iff.mp hv)
    refine ⟨_, strsAre_map out all, ?_⟩
    have := po.map strOf
    rw [sa.strs] at this
    exact this.trans pm
  have hol : out.length = m.length := by
    have e := sb.length
    rw [e, pn.length_eq]
  have I1 : Inv X pins σ H s1 := by
    have e : s1 = { s with heap := s1.heap, gens := s1.gens, drawn := s1.drawn, toks := s1.toks } := by
      cases s1; cases s; cases o1; rfl
    rw [e]
    exact I.call (ch := []) (Un.kept k1) (I.hok.kept k1) (by rw [g1]; exact I.bare) fun b z => absurd z (by simp)
  refine wpAny_bind (wpAny_newList ?_ (by rw [hol, sizeLine_eq]; omega))
  have hoL : (s1.heap.push (seqObj "list" out.toArray 0)).get? s1.heap.objs.size = some (seqObj "list" out.toArray 0) := Heap.get?_push_size _ rfl
  show wpAny _ _ _ _ _ { s1 with heap := s1.heap.push (seqObj "list" out.toArray 0) }
  refine wpAny_bind (wpAny_holding (wpAny_call_entry slot_list_sort ⟨_, hoL, rfl⟩ entry_list_sort
    (list_sort_treeK strKind_oneLt (s := { s1 with heap := s1.heap.push (seqObj "list" out.toArray 0) }) hoL sb.keysOf (fun v₁ v₂ rest e => keyKind_strs (by rw [← e]; exact sb)) (by rw [hol]; exact h64) fun st' hp hs => ⟨_, rfl, ?_⟩) (args_list_sort _)))
  obtain ⟨ys, g1, g2, g3⟩ := sorted_out_str sb hp hs
  obtain ⟨e', he'⟩ := sortedHeap_at (vs := out) (out := (arrOf st').map (·.2)) hoL
  have py : ys.Perm m := g2.trans pn
  have ey : ys = dist ltS m := dist_of ltS_ord (sorted_asc g3 (py.nodup_iff.mpr nd)) fun x => py.mem_iff
  have hlen : (ys.map V.str).length ≤ sizeLine := by
    rw [List.length_map, py.length_eq]
    exact Nat.le_trans (Nat.le_of_lt h64) (by decide)
  have hn := I1.hok.fresh (Nat.le_refl _)
  refine wpAny_pure ⟨_, rfl, .ref s1.heap.objs.size, upd H s1.heap.objs.size (.lst (ys.map V.str)), I1.laid (t' := s1.toks) (fun b u e => ?_) (Nat.le_refl _)
    (show ObjOk X.prog X.w _ _ _ (.lst (ys.map V.str)) from ⟨hlen, ((arrOf st').map (·.2)).toList, e', vals_of_strs g1, by rw [Array.toArray_toList]; exact he'⟩), rfl, by rw [ey]; exact q _ hn⟩
  have hb : b < s1.heap.objs.size := Heap.lt_size e
  rw [sortedHeap_old (Nat.ne_of_lt hb) (by rw [size_push']; exact Nat.lt_succ_of_lt hb)]
  exact Heap.get?_push_of_some _ e
end
theorem dp_strs {K : PySem.W.Frag} {B : Hp} : ∀ {xs : List V} {ss : List Str}, DpAll K B xs (ss.map PyData.str) → xs = ss.map V.str
  | _, [], .nil => rfl
  | _, s :: ss, .cons h a => by
    cases h
    rw [dp_strs a]
    rfl
theorem strs_dp {K : PySem.W.Frag} {B : Hp} : ∀ (ss : List Str), DpAll K B (ss.map V.str) (ss.map PyData.str)
  | [] => .nil
  | s :: ss => .cons (.str s) (strs_dp ss)
theorem dist_congr {m ss : List Str} (h : ∀ k, k ∈ m ↔ k ∈ ss) : dist ltS m = dist ltS ss := dist_of ltS_ord (asc_dist ltS_ord m) fun x => by rw [mem_dist, h]
/-- sorted(set(t)) -/
theorem ev_sortset {K : PySem.W.Frag} {P : Program} {w : World} {g : Gr} {δ : List Sl} {μ : Mus} {te : TE} {k : Sl → Mus → Prop} (h : Ev K g δ μ te fun w1 μ1 => ∃ ss : List Str, w1 = .da (tS ss) ∧ ss.length < 64 ∧ k (.da (lS (dist ltS ss))) μ1) :
    Ev K g δ μ (tCB (rSortedTx P w) (tCons (tCB (rSetTx K P w) (tCons te tNil)) tNil)) k := fun σ H B c Q hq =>
  h σ H B c _ fun w1 μ1 v H1 B1 h1 c1 s1 r1 => by
    obtain ⟨ss, e, hl, hk⟩ := h1
    subst e
    obtain ⟨p, xs, rfl, h2, h3⟩ := dp_tup r1
    have ex := dp_strs h3
    subst ex
    refine ⟨p, ss, rfl, same_t c1.bh h2, by omega, fun a m ha hm hle => ?_⟩
    obtain ⟨c2, s2⟩ := c1.new (o := TxO P w a m) ha
    refine ⟨a, m, rfl, upd_same, by omega, fun b hb => ?_⟩
    rw [dist_congr hm]
    obtain ⟨c3, s3⟩ := c2.new (o := .lst ((dist ltS ss).map V.str)) hb
    exact hq _ _ _ _ _ hk c3 (s1.trans (s2.trans s3)) (.lst (.inl (.inl upd_same)) (strs_dp _))
end De
end
section
set_option Elab.async false
set_option linter.all false
set_option maxHeartbeats 0
set_option maxRecDepth 100000
/-! The program's text by places; what the top holds. -/
namespace De
open PySem L2 PySem.Spec PyProof.Rows
def topS (i : Nat) : Stmt := PySem.Challenge.pw_deepedge_k27_whole_a_floor_or_a_certific.main.body.getD i (.Pass ⟨0, 0, 0, 0⟩)
/-- every parameter and reach= are given -/
theorem kbn {K : PySem.W.Frag} {x qual : Str} {st : Stmt} {f : Addr} {fd : FuncData} {ps ks : List Str} {n : Nat} (F : Fun K x qual st f fd)
    (h : ∀ (kV doc pm : Value) (an : Option Addr) (cdv ct : Value) (us ws : List Value), us.length = n → ws.length = ks.length → bindArgs (PySem.W.fnOf x qual (defArgs st) (defBody st) (defScope st) .none kV doc pm an cdv ct) ⟨us, ks.zip ws⟩ = pure (ps.zip (us ++ ws))) :
    KBn K fd ps n ks (fun us ws => us ++ ws) (fun vs zs => vs ++ zs) := by
  obtain ⟨oc, od, kV, doc, pm, an, cdv, ct, osl, rfl, lk, hcd⟩ := F.ex
  exact ⟨fun s us ws _ l1 l2 => .of_eq (h kV doc pm an cdv ct us ws l1 l2), fun r1 r2 => r1.append r2⟩
/-- a def of the top, all parameters written by place -/
structure Df (K : PySem.W.Frag) (mg : Str → Option Value) (x qual : Str) (st : Stmt) (ps : List Str) where
  a : Addr
  d : FuncData
  F : Fun K x qual st a d
  g : mg x = some (.ref a)
  b : Binds K d ps []
/-- .. with reach= -/
structure Dk (K : PySem.W.Frag) (mg : Str → Option Value) (x qual : Str) (st : Stmt) (ps : List Str) (n : Nat) where
  a : Addr
  d : FuncData
  F : Fun K x qual st a d
  g : mg x = some (.ref a)
  k : KBn K d ps n ["reach"] (fun us ws => us ++ ws) (fun vs zs => vs ++ zs)
/-- a def that is called in a way of its own -/
structure Dn (K : PySem.W.Frag) (mg : Str → Option Value) (x qual : Str) (st : Stmt) where
  a : Addr
  d : FuncData
  F : Fun K x qual st a d
  g : mg x = some (.ref a)
/-- a method -/
structure Dm (K : PySem.W.Frag) (C : Addr) (x qual : Str) (st : Stmt) (ps : List Str) where
  a : Addr
  d : FuncData
  F : Fun K x qual st a d
  b : Binds K d ps []
  m : Meth K C x a
/-- what the top holds besides defs -/
structure Tc (K : PySem.W.Frag) (mg : Str → Option Value) where
  z_len : mg "len" = none
  z_min : mg "min" = none
  z_max : mg "max" = none
  z_abs : mg "abs" = none
  z_int : mg "int" = none
  z_list : mg "list" = none
  z_tuple : mg "tuple" = none
  z_isinstance : mg "isinstance" = none
  z_all : mg "all" = none
  z_range : mg "range" = none
  z_zip : mg "zip" = none
  z_enumerate : mg "enumerate" = none
  z_sorted : mg "sorted" = none
  z_set : mg "set" = none
  z_str : mg "str" = none
  z_bool : mg "bool" = none
  vPOP : Value
  mPOP : mg "POP" = some vPOP
  cPOP : RelV (.str "pop") vPOP
  vDUP : Value
  mDUP : mg "DUP" = some vDUP
  cDUP : RelV (.str "dup") vDUP
  vSWAP : Value
  mSWAP : mg "SWAP" = some vSWAP
  cSWAP : RelV (.str "swap") vSWAP
structure Ts (K : PySem.W.Frag) (mg : Str → Option Value) where
  aS : Addr
  clS : Cls K aS
  gS : mg "Site" = some (.ref aS)
  a0 : Addr
  d0 : FuncData
  F0 : Fun K "__init__" "Site.__init__" (inClass (topS 37) 0) a0 d0
  b0 : Binds K d0 ["self", "stack", "reach"] []
  mkS : Mk K aS a0
  aP : Addr
  a1 : Addr
  d1 : FuncData
  F1 : Fun K "height" "Site.height" (inClass (topS 37) 1) a1 d1
  b1 : Binds K d1 ["self"] []
  ph : PropOf K aS "height" aP a1
  na_cells : NoAttr K aS "cells"
  na_reach : NoAttr K aS "reach"
  na_made : NoAttr K aS "made"
  f37_2 : Dm K aS "pop" "Site.pop" (inClass (topS 37) 2) ["self"]
  f37_3 : Dm K aS "copy" "Site.copy" (inClass (topS 37) 3) ["self", "index"]
  f37_4 : Dm K aS "exchange" "Site.exchange" (inClass (topS 37) 4) ["self", "index"]
  f37_5 : Dm K aS "remove" "Site.remove" (inClass (topS 37) 5) ["self", "index"]
  f37_6 : Dm K aS "replace" "Site.replace" (inClass (topS 37) 6) ["self", "index", "source"]
  f37_7 : Dm K aS "move" "Site.move" (inClass (topS 37) 7) ["self", "source", "index"]
  f37_8 : Dm K aS "lowest_in_reach" "Site.lowest_in_reach" (inClass (topS 37) 8) ["self"]
structure Tx (K : PySem.W.Frag) (mg : Str → Option Value) extends Tc K mg, Ts K mg where
  f1 : Df K mg "common_prefix" "common_prefix" (topS 1) ["one", "other"]
  f2 : Df K mg "distinct" "distinct" (topS 2) ["values"]
  f3 : Dk K mg "depth_of" "depth_of" (topS 3) ["target", "reach"] 1
  f4 : Dk K mg "is_floor" "is_floor" (topS 4) ["stack", "target", "floor", "reach"] 3
  f5 : Dk K mg "floors" "floors" (topS 5) ["stack", "target", "reach"] 2
  f6 : Dk K mg "profile" "profile" (topS 6) ["target", "reach"] 1
  f8 : Df K mg "first_missing" "first_missing" (topS 8) ["stack", "values"]
  f9 : Df K mg "barrier" "barrier" (topS 9) ["stack", "target", "depth", "values", "reach"]
  f10 : Dk K mg "reaches" "reaches" (topS 10) ["stack", "target", "reach"] 2
  f11 : Dk K mg "decide" "decide" (topS 11) ["stack", "target", "reach"] 2
  f20 : Df K mg "is_between" "is_between" (topS 20) ["thing", "least", "most"]
  f22 : Df K mg "need" "need" (topS 22) ["is_so", "reason"]
  f23 : Df K mg "are_values_of" "are_values_of" (topS 23) ["thing", "cells", "count"]
  f24 : Df K mg "is_ground" "is_ground" (topS 24) ["stack", "target", "floor", "detail"]
  f25 : Df K mg "is_missing" "is_missing" (topS 25) ["stack", "target", "floor", "detail"]
  f26 : Df K mg "is_edge" "is_edge" (topS 26) ["stack", "target", "floor", "detail", "reach"]
  f27 : Dk K mg "check_blocked" "check_blocked" (topS 27) ["stack", "target", "value", "reach"] 3
  f32 : Dk K mg "is_instruction" "is_instruction" (topS 32) ["thing", "reach"] 1
  f33 : Df K mg "items_of" "items_of" (topS 33) ["part"]
  f34 : Df K mg "joined" "joined" (topS 34) ["parts"]
  f35 : Df K mg "cells_needed" "cells_needed" (topS 35) ["instruction"]
  f38 : Df K mg "removable" "removable" (topS 38) ["site", "base", "keep"]
  f39 : Df K mg "lower" "lower" (topS 39) ["site", "base", "height", "keep"]
  f41 : Df K mg "index_of" "index_of" (topS 41) ["site", "value", "least"]
  f42 : Df K mg "spare_index" "spare_index" (topS 42) ["site", "floor", "value", "needed"]
  f43 : Df K mg "double" "double" (topS 43) ["site", "floor", "value", "needed"]
  f44 : Df K mg "settle" "settle" (topS 44) ["site", "floor", "target"]
  f45 : Df K mg "lacking" "lacking" (topS 45) ["site", "base", "target"]
  f46 : Df K mg "climb" "climb" (topS 46) ["site", "target"]
  f47 : Df K mg "finish" "finish" (topS 47) ["site", "target"]
  f48 : Df K mg "is_extra" "is_extra" (topS 48) ["site", "base", "target", "index"]
  f49 : Df K mg "rebuilt" "rebuilt" (topS 49) ["stack", "target", "reach", "floor"]
  f50 : Dn K mg "build" "build" (topS 50)
  f52 : Df K mg "applied" "applied" (topS 52) ["stack", "instruction"]
  f53 : Df K mg "lowest_cell" "lowest_cell" (topS 53) ["height", "instruction"]
  f54 : Dn K mg "trace" "trace" (topS 54)
  f55 : Dn K mg "run" "run" (topS 55)
  f56 : Dn K mg "untouched" "untouched" (topS 56)
  f58 : Df K mg "_law_pen" "_law_pen" (topS 58) ["_law_script"]
  f59 : Df K mg "_law_draw" "_law_draw" (topS 59) ["_law_pen_here", "_law_many"]
  f60 : Df K mg "_law_pool" "_law_pool" (topS 60) ["_law_pen_here", "_law_many"]
  f61 : Df K mg "_law_pile" "_law_pile" (topS 61) ["_law_pen_here", "_law_pool_here", "_law_tallest"]
  f62 : Df K mg "_law_steps" "_law_steps" (topS 62) ["_law_pen_here", "_law_height", "_law_bound", "_law_many"]
  f63 : Df K mg "_law_moved" "_law_moved" (topS 63) ["_law_pile_here", "_law_step"]
  f64 : Df K mg "_law_goal" "_law_goal" (topS 64) ["_law_pen_here", "_law_pool_here", "_law_pile_here", "_law_bound"]
  f65 : Df K mg "_law_scene" "_law_scene" (topS 65) ["_law_pen_here"]
  f66 : Df K mg "_law_accepts" "_law_accepts" (topS 66) ["_law_pile_here", "_law_goal_here", "_law_given", "_law_bound"]
  f67 : Df K mg "_law_built" "_law_built" (topS 67) ["_law_pile_here", "_law_goal_here", "_law_bound"]
  f68 : Df K mg "_law_offered" "_law_offered" (topS 68) ["_law_pen_here", "_law_made", "_law_ground"]
  f69 : Df K mg "_law_pair_right" "_law_pair_right" (topS 69) ["_law_pile_here", "_law_goal_here", "_law_bound", "_law_offered_here"]
  f70 : Df K mg "law" "law" (topS 70) ["_law_script"]
end De
end
section
set_option Elab.async false
set_option linter.all false
set_option maxRecDepth 100000
set_option maxHeartbeats 2000000
/-! More rules of the layer. -/
namespace De
open PySem L2 PySem.Spec PyProof.Rows
/-! ### plain data: equality is that of Lean -/
def okS (s : Str) : Bool := s.cps.all (· < 0x110000)
mutual
def plD : PyData → Bool
  | .none => true | .int _ => true | .str s => okS s | .list xs => plDs xs | .tuple xs => plDs xs | .bool _ => false | .dict _ => false
def plDs : List PyData → Bool
  | [] => true
  | x :: xs => plD x && plDs xs
end
mutual
theorem eqv_pl : ∀ (d e : PyData), plD d = true → plD e = true → (PyData.eqv d e = true ↔ d = e)
  | .none, e, _, he => by cases e <;> simp [PyData.eqv, plD] at he ⊢
  | .int i, e, _, he => by cases e <;> simp [PyData.eqv, plD] at he ⊢
  | .str s, e, _, he => by cases e <;> simp [PyData.eqv, plD] at he ⊢
  | .bool _, _, h, _ => by simp [plD] at h
  | .dict _, _, h, _ => by simp [plD] at h
  | .list xs, e, h, he => by
    cases e with
    | list ys =>
      simp only [plD] at h he
      simp only [PyData.eqv, eqvAll_pl xs ys h he, PyData.list.injEq]
    | dict _ => simp [plD] at he
    | bool _ => simp [plD] at he
    | _ => simp [PyData.eqv]
  | .tuple xs, e, h, he => by
    cases e with
    | tuple ys =>
      simp only [plD] at h he
      simp only [PyData.eqv, eqvAll_pl xs ys h he, PyData.tuple.injEq]
    | dict _ => simp [plD] at he
    | bool _ => simp [plD] at he
    | _ => simp [PyData.eqv]
theorem eqvAll_pl : ∀ (ds es : List PyData), plDs ds = true → plDs es = true → (PyData.eqvAll ds es = true ↔ ds = es)
  | [], [], _, _ => by simp [PyData.eqvAll]
  | [], _ :: _, _, _ => by simp [PyData.eqvAll]
  | _ :: _, [], _, _ => by simp [PyData.eqvAll]
  | x :: xs, y :: ys, h, he => by
    simp only [plDs, Bool.and_eq_true] at h he
    simp only [PyData.eqvAll, Bool.and_eq_true, eqv_pl x y h.1 he.1, eqvAll_pl xs ys h.2 he.2, List.cons.injEq]
end
mutual
theorem lay_pl : ∀ d : PyData, plD d = true → d.canLay0 = true
  | .none, _ => rfl
  | .int _, _ => rfl
  | .str s, h => h
  | .bool _, h => by simp [plD] at h
  | .dict _, h => by simp [plD] at h
  | .list xs, h => by simp only [plD] at h; simp only [PyData.canLay0]; exact layAll_pl xs h
  | .tuple xs, h => by simp only [plD] at h; simp only [PyData.canLay0]; exact layAll_pl xs h
theorem layAll_pl : ∀ ds : List PyData, plDs ds = true → PyData.canLayAll0 ds = true
  | [], _ => rfl
  | x :: xs, h => by
    simp only [plDs, Bool.and_eq_true] at h
    simp only [PyData.canLayAll0, Bool.and_eq_true]
    exact ⟨lay_pl x h.1, layAll_pl xs h.2⟩
end
theorem shaped_pl {d : PyData} (h : plD d = true) (hd : d.depth ≤ 64) : SeqAt.shaped d = true := by
  unfold SeqAt.shaped
  rw [lay_pl d h, Bool.true_and]
  exact decide_eq_true hd
theorem plDs_str : ∀ {ss : List Str}, (∀ s, s ∈ ss → okS s = true) → plDs (ss.map PyData.str) = true
  | [], _ => rfl
  | s :: ss, h => by
    simp only [List.map_cons, plDs, Bool.and_eq_true]
    exact ⟨h s List.mem_cons_self, plDs_str fun t ht => h t (List.mem_cons_of_mem _ ht)⟩
theorem depthAll_str : ∀ (ss : List Str), PyData.depthAll (ss.map PyData.str) = 0
  | [] => rfl
  | s :: ss => by simp only [List.map_cons, PyData.depthAll, PyData.depth, depthAll_str ss]; rfl
/-- a pile: texts of proper signs, not too many -/
structure Pil (ss : List Str) : Prop where
  ok : ∀ s, s ∈ ss → okS s = true
  len : ss.length ≤ 60
theorem Pil.sub {ss ts : List Str} (p : Pil ss) (h : ∀ s, s ∈ ts → s ∈ ss) (hl : ts.length ≤ ss.length) : Pil ts := ⟨fun s hs => p.ok s (h s hs), by have := p.len; omega⟩
theorem Pil.drop {ss : List Str} (p : Pil ss) (n : Nat) : Pil (ss.drop n) := p.sub (fun _ h => List.mem_of_mem_drop h) (by rw [List.length_drop]; omega)
theorem Pil.take {ss : List Str} (p : Pil ss) (n : Nat) : Pil (ss.take n) := p.sub (fun _ h => List.mem_of_mem_take h) (by rw [List.length_take]; omega)
theorem Pil.sh {ss : List Str} (p : Pil ss) : SeqAt.shaped (tS ss) = true := shaped_pl (by simp only [plD]; exact plDs_str p.ok) (by simp only [PyData.depth, depthAll_str]; decide)
theorem map_str_inj : ∀ {a b : List Str}, a.map PyData.str = b.map PyData.str → a = b
  | [], [], _ => rfl
  | [], _ :: _, h => by simp at h
  | _ :: _, [], h => by simp at h
  | x :: a, y :: b, h => by
    simp only [List.map_cons, List.cons.injEq, PyData.str.injEq] at h
    rw [h.1, map_str_inj h.2]
theorem eqv_dec {d e : PyData} (h1 : plD d = true) (h2 : plD e = true) {p : Prop} [Decidable p] (h : d = e ↔ p) : PyData.eqv d e = decide p := by
  rw [Bool.eq_iff_iff, eqv_pl d e h1 h2, h, decide_eq_true_iff]
theorem eqv_pil {a b : List Str} (p : Pil a) (q : Pil b) : PyData.eqv (tS a) (tS b) = decide (a = b) :=
  eqv_dec (by simp only [plD]; exact plDs_str p.ok) (by simp only [plD]; exact plDs_str q.ok) ⟨fun h => map_str_inj (by simpa using h), fun h => by rw [h]⟩
def dats : List Sl → Option (List PyData)
  | [] => some []
  | .da d :: r => match dats r with
    | some es => some (d :: es)
    | none => none
  | _ => none
theorem dats_eq : ∀ {ws : List Sl} {ds : List PyData}, dats ws = some ds → ws = ds.map Sl.da
  | [], ds, h => by cases h; rfl
  | .da d :: r, ds, h => by
    unfold dats at h
    cases q : dats r with
    | none => rw [q] at h; cases h
    | some es => rw [q] at h; cases h; rw [List.map_cons, dats_eq q]
  | .no :: _, _, h => by cases h
  | .va _ :: _, _, h => by cases h
section
variable {K : PySem.W.Frag} {g : Gr} {δ : List Sl} {μ : Mus} {k : Sl → Mus → Prop} {kb : Bool → Mus → Prop} {te ta tb tc : TE} {tt : TT} {tas tk : TA} {E : XK}
/-- a def without objects that change -/
def pu (D : List Sl → Sl → Prop) : Spec := fun ws μ k => μ = [] ∧ ∃ r, D ws r ∧ k r []
theorem CallK.pu {D : List Sl → Sl → Prop} {ws : List Sl} (h : ∃ r, D ws r ∧ k r μ) : CallK (pu D) ws μ k := by
  obtain ⟨r, hd, hk⟩ := h
  refine ⟨[], [], rfl, List.nodup_nil, fun w m => w = r ∧ m = [], ⟨rfl, r, hd, rfl, rfl⟩, fun w m news _ h => ?_⟩
  obtain ⟨rfl, rfl⟩ := h
  show k w (μ ++ [])
  rw [List.append_nil]; exact hk
theorem ev_callP {D : List Sl → Sl → Prop} (h : EvA K g δ μ tas fun ws μ1 => ∃ r, D ws r ∧ k r μ1) : Ev K g δ μ (tCall (spG K (pu D)) [] E tas) k := ev_call fun σ H B c Q hq => h σ H B c Q fun ws μ1 vs H1 B1 x => hq ws μ1 vs H1 B1 (.pu x)
theorem ev_callN {S : Spec} {n m : Nat} (h : EvA K g δ μ tas fun ws μ1 => EvA K g δ μ1 tk fun us μ2 => ws.length = n ∧ us.length = m ∧ CallK S (ws ++ us) μ2 k) : Ev K g δ μ (tCallN n m (spG K S) (fun vs zs => vs ++ zs) E tas tk) k := fun σ H B c Q hq =>
  h σ H B c _ fun ws μ1 vs H1 B1 h1 c1 s1 r1 => h1 σ H1 B1 c1 _ fun us μ2 zs H2 B2 h2 c2 s2 r2 => by
    obtain ⟨l1, l2, h2⟩ := h2
    have app : ∀ {vs ws zs us}, RlAll K B2 vs ws → RlAll K B2 zs us → RlAll K B2 (vs ++ zs) (ws ++ us) := fun {vs ws zs us} a b => by
      induction a with
      | nil => exact b
      | cons h _ ih => exact .cons h ih
    exact ⟨r1.len.trans l1, r2.len.trans l2, call_run c2 (app (rlAll_same s2 r1) r2) h2 (hq.mono (s1.trans s2))⟩
theorem ev_callNP {D : List Sl → Sl → Prop} {n m : Nat} (h : EvA K g δ μ tas fun ws μ1 => EvA K g δ μ1 tk fun us μ2 => ws.length = n ∧ us.length = m ∧ ∃ r, D (ws ++ us) r ∧ k r μ2) : Ev K g δ μ (tCallN n m (spG K (pu D)) (fun vs zs => vs ++ zs) E tas tk) k :=
  ev_callN fun σ H B c Q hq => h σ H B c Q fun ws μ1 vs H1 B1 x => hq ws μ1 vs H1 B1 fun σ H B c Q hq => x σ H B c Q fun us μ2 zs H2 B2 y => hq us μ2 zs H2 B2 ⟨y.1, y.2.1, .pu y.2.2⟩
/-! ### small operators -/
theorem o_eqI {i j : Int} (q : k (dB (decide (i = j))) μ) : Op2 K g δ rEq (dI i) (dI j) μ k := fun σ H B c v1 v2 r1 r2 Q hq => by
  cases dp_int r1; cases dp_int r2
  refine ⟨rfl, hq.go c q ?_⟩
  have : decide (V.int i = V.int j) = decide (i = j) := by simp
  rw [this]; exact .bl _
theorem o_neI {i j : Int} (q : k (dB (!decide (i = j))) μ) : Op2 K g δ rNe (dI i) (dI j) μ k := fun σ H B c v1 v2 r1 r2 Q hq => by
  cases dp_int r1; cases dp_int r2
  refine ⟨rfl, hq.go c q ?_⟩
  have : decide (V.int i = V.int j) = decide (i = j) := by simp
  rw [this]; exact .bl _
theorem o_eqS {i j : Str} (q : k (dB (decide (i = j))) μ) : Op2 K g δ rEq (dS i) (dS j) μ k := fun σ H B c v1 v2 r1 r2 Q hq => by
  cases dp_str r1; cases dp_str r2
  refine ⟨rfl, hq.go c q ?_⟩
  have : decide (V.str i = V.str j) = decide (i = j) := by simp
  rw [this]; exact .bl _
theorem o_neS {i j : Str} (q : k (dB (!decide (i = j))) μ) : Op2 K g δ rNe (dS i) (dS j) μ k := fun σ H B c v1 v2 r1 r2 Q hq => by
  cases dp_str r1; cases dp_str r2
  refine ⟨rfl, hq.go c q ?_⟩
  have : decide (V.str i = V.str j) = decide (i = j) := by simp
  rw [this]; exact .bl _
theorem o_eqP {a b : List Str} (p : Pil a) (p' : Pil b) (q : k (dB (decide (a = b))) μ) : Op2 K g δ (rEqD K) (.da (tS a)) (.da (tS b)) μ k := o_eqD p.sh p'.sh (by rw [eqv_pil p p']; exact q)
theorem o_neP {a b : List Str} (p : Pil a) (p' : Pil b) (q : k (dB (!decide (a = b))) μ) : Op2 K g δ (rNeD K) (.da (tS a)) (.da (tS b)) μ k := o_neD p.sh p'.sh (by rw [eqv_pil p p']; exact q)
/-- e is None -/
def nonD : PyData → Bool
  | .none => true | _ => false
theorem dp_non {B : Hp} {v : V} {d : PyData} (h : Dp K B v d) : decide (v = .non) = nonD d := by cases h <;> rfl
theorem o_isN {d : PyData} (q : k (dB (nonD d)) μ) : Op2 K g δ (fun x y H Q => y = .non ∧ Q (.bl (decide (x = .non))) H) (.da d) dN μ k := fun σ H B c v1 v2 r1 r2 Q hq => by
  refine ⟨dp_none r2, hq.go c q ?_⟩
  rw [dp_non r1]; exact .bl _
theorem o_notN {d : PyData} (q : k (dB (!nonD d)) μ) : Op2 K g δ (fun x y H Q => y = .non ∧ Q (.bl (!decide (x = .non))) H) (.da d) dN μ k := fun σ H B c v1 v2 r1 r2 Q hq => by
  refine ⟨dp_none r2, hq.go c q ?_⟩
  rw [dp_non r1]; exact .bl _
theorem o_ltS {i j : Str} (q : k (dB (ltS i j)) μ) : Op2 K g δ (fun x y H Q => ∃ i j, x = .str i ∧ y = .str j ∧ Q (.bl (decide (i.cps.toList < j.cps.toList))) H) (dS i) (dS j) μ k := fun σ H B c v1 v2 r1 r2 Q hq =>
  ⟨i, j, dp_str r1, dp_str r2, hq.go c q (.bl _)⟩
theorem oc_min2 {i j : Int} (q : k (dI (if j < i then j else i)) μ) : OpC K g δ (fun xs H Q => ∃ i j, xs = [.int i, .int j] ∧ Q (.int (if j < i then j else i)) H) [dI i, dI j] μ k := fun σ H B c vs r Q hq => by
  obtain ⟨v, v', rfl, r1, r2⟩ := rl2 r
  exact ⟨i, j, by rw [dp_int r1, dp_int r2], hq.go c q (.int _)⟩
theorem oc_max2 {i j : Int} (q : k (dI (if j > i then j else i)) μ) : OpC K g δ (fun xs H Q => ∃ i j, xs = [.int i, .int j] ∧ Q (.int (if j > i then j else i)) H) [dI i, dI j] μ k := fun σ H B c vs r Q hq => by
  obtain ⟨v, v', rfl, r1, r2⟩ := rl2 r
  exact ⟨i, j, by rw [dp_int r1, dp_int r2], hq.go c q (.int _)⟩
theorem oc_abs {i : Int} (q : k (dI (if i < 0 then -i else i)) μ) : OpC K g δ (fun xs H Q => ∃ i, xs = [.int i] ∧ Q (.int (if i < 0 then -i else i)) H) [dI i] μ k := fun σ H B c vs r Q hq => by
  obtain ⟨v, rfl, r1⟩ := rl1 r
  exact ⟨i, by rw [dp_int r1], hq.go c q (.int _)⟩
theorem oc_intB {b : Bool} (q : k (dI (if b then 1 else 0)) μ) : OpC K g δ (fun xs H Q => (∃ i, xs = [.int i] ∧ Q (.int i) H) ∨ ∃ k, xs = [.bl k] ∧ Q (.int (if k then 1 else 0)) H) [dB b] μ k := fun σ H B c vs r Q hq => by
  obtain ⟨v, rfl, r1⟩ := rl1 r
  exact .inr ⟨b, by rw [dp_bool r1], hq.go c q (.int _)⟩
/-- all(list of tests) -/
theorem dps_bool {B : Hp} : ∀ {vs : List V} {bs : List Bool}, DpAll K B vs (bs.map PyData.bool) → vs = bs.map V.bl
  | _, [], .nil => rfl
  | _, b :: bs, .cons h a => by cases h; rw [dps_bool a]; rfl
theorem oc_all {bs : List Bool} (q : k (dB (bs.all id)) μ) : OpC K g δ (rAll K) [dL (bs.map PyData.bool)] μ k := fun σ H B c vs r Q hq => by
  obtain ⟨v, rfl, r1⟩ := rl1 r
  obtain ⟨a, xs, rfl, h1, h2⟩ := dp_lst r1
  cases dps_bool h2
  exact ⟨a, bs, rfl, same_l c.bh h1, hq.go c q (.bl _)⟩
/-- a tuple, a list of data -/
theorem ev_tup' (h : EvA K g δ μ tas fun ws μ1 => ∃ ds, dats ws = some ds ∧ Nat.ble ds.length 60 = true ∧ k (dT ds) μ1) : Ev K g δ μ (tTupF tas) k := ev_tup fun σ H B c Q hq => h σ H B c Q fun ws μ1 vs H1 B1 ⟨ds, e, l, x⟩ => hq ws μ1 vs H1 B1 ⟨ds, dats_eq e, sz_ok (Nat.le_trans (Nat.le_of_ble_eq_true l) (by decide)), x⟩
theorem ev_lst' (h : EvA K g δ μ tas fun ws μ1 => ∃ ds, dats ws = some ds ∧ Nat.ble ds.length 60 = true ∧ k (dL ds) μ1) : Ev K g δ μ (tLst tas) k := ev_lst fun σ H B c Q hq => h σ H B c Q fun ws μ1 vs H1 B1 ⟨ds, e, l, x⟩ => hq ws μ1 vs H1 B1 ⟨ds, dats_eq e, sz_ok (Nat.le_trans (Nat.le_of_ble_eq_true l) (by decide)), x⟩
/-- isinstance -/
def tyD : PyData → String
  | .none => "NoneType" | .bool _ => "bool" | .int _ => "int" | .str _ => "str" | .list _ => "list" | .tuple _ => "tuple" | .dict _ => "dict"
theorem seqT_ty {H : Hp} {a : Addr} {xs : List V} (h : SqT K H a xs) : TyX K H (.ref a) (.type "tuple") := by
  rcases h with (h | ⟨o, h⟩) | h
  · exact .base (.tup h)
  · exact .fTuple h
  · obtain ⟨o, _, _, h1, h2, _⟩ := h
    exact .kTuple h1 h2
theorem seqL_ty {H : Hp} {a : Addr} {xs : List V} (h : SqL K H a xs) : TyX K H (.ref a) (.type "list") := by
  rcases h with (h | ⟨o, h⟩) | h
  · exact .base (.lst h)
  · exact .base (.frz h)
  · obtain ⟨o, _, _, h1, h2, _⟩ := h
    exact .kList h1 h2
theorem dp_ty {B : Hp} {v : V} {d : PyData} (h : Dp K B v d) : TyX K B v (.type (tyD d)) := by
  cases h with
  | non => exact .base .non
  | bl b => exact .base (.bl b)
  | int i => exact .base (.int i)
  | str s => exact .base (.str s)
  | lst h a => exact seqL_ty h
  | tup h a => exact seqT_ty h.sq
theorem oc_isi {d : PyData} {t : String} {b : Bool} (hk : kitB (tyD d) t = some b) (q : k (dB b) μ) : OpC K g δ (rIsi K) [.da d, .va (.ty t)] μ k := fun σ H B c vs r Q hq => by
  obtain ⟨v, v', rfl, r1, r2⟩ := rl2 r
  cases (show v' = _ from r2)
  exact ⟨v, .ty t, .type (tyD d), .type t, b, rfl, .ty t, dp_ty (dp_same c.bh r1), kit_ty hk, hq.go c q (.bl _)⟩
/-- a < b < c -/
theorem ev_chain {r r' : R2} (h : Ev K g δ μ ta fun w1 μ1 => Ev K g δ μ1 tb fun w2 μ2 => Op2 K g δ r w1 w2 μ2 fun w μ3 => ∃ b, w = dB b ∧ (b = false → k (dB false) μ3) ∧ (b = true → Ev K g δ μ3 tc fun w3 μ4 => Op2 K g δ r' w2 w3 μ4 k)) : Ev K g δ μ (tChain r r' ta tb tc) k := fun σ H B c Q hq =>
  h σ H B c _ fun w1 μ1 v1 H1 B1 h1 c1 s1 r1 => h1 σ H1 B1 c1 _ fun w2 μ2 v2 H2 B2 h2 c2 s2 r2 => h2 σ H2 B2 c2 v1 v2 (rl_same s2 r1) r2 _ fun w μ3 v H3 B3 h3 c3 s3 r3 => by
    obtain ⟨b, e, hf, ht⟩ := h3
    subst e
    have s123 := s1.trans (s2.trans s3)
    refine ⟨b, dp_bool r3, ?_⟩
    cases b with
    | true => exact ht rfl σ H3 B3 c3 _ fun w3 μ4 v3 H4 B4 h4 c4 s4 r4 => h4 σ H4 B4 c4 v2 v3 (rl_same (s3.trans s4) r2) r4 Q (hq.mono (s123.trans s4))
    | false => exact hq.mono s123 |>.go c3 (hf rfl) (.bl false)
end
end De
end
section
set_option Elab.async false
set_option linter.all false
set_option maxRecDepth 100000
set_option maxHeartbeats 2000000
/-! zip, comprehensions without effects, the step word. -/
namespace De
open PySem L2 PySem.Spec PyProof.Rows RZ
section
variable {K : PySem.W.Frag} {g : Gr} {δ : List Sl} {μ : Mus} {k : Sl → Mus → Prop} {F : AE} {te : TE} {tt : TT} {ta : TA} {tl : TE} {tb : TS}
theorem pair_run {σ : L2.St} {H B : Hp} {δ' : List Sl} {μ' : Mus} {T : Addr} {x y : V} {d e : PyData} {Q : L2.St → Hp → Prop} {i j : Nat} (c : Cta K g δ' μ' σ H B) (hT : H T = none) (hx : Dp K B x d) (hy : Dp K B y e)
    (q : ∀ σ2 B2, Same B B2 → Cta K g ((δ'.set i (.da d)).set j (.da e)) μ' σ2 (upd H T (.tup [x, y])) B2 → Q σ2 (upd H T (.tup [x, y]))) : gTup K 2 (gCons (gName i) (gCons (gName j) gNil)) (.ref T) σ (upd H T (.tup [x, y])) Q := by
  obtain ⟨c2, s2⟩ := c.new (o := .tup [x, y]) hT
  refine ⟨T, [x, y], rfl, .inl (.inl upd_same), rfl, x, [y], rfl, y, [], rfl, rfl, q _ _ s2 ?_⟩
  exact (c2.store (i := i) (w := .da d) (dp_same s2 hx)).store (i := j) (w := .da e) (dp_same s2 hy)
theorem turns_zipT {Iv : Nat → List Sl → Mus → Prop} {ds es : List PyData} {a b : Addr} {xs ys : List V} {D : Ends} {H1 B1 : Hp} {σ : L2.St} {μ1 : Mus} {i j : Nat} (c1 : Cta K g δ μ1 σ H1 B1) (f1 : Fits K g F D B1) (h2 : SqT K B1 a xs) (h3 : DpAll K B1 xs ds) (h4 : SqT K B1 b ys) (h5 : DpAll K B1 ys es)
    (ht : Turns (min ds.length es.length) δ μ1 F Iv fun n δ' μ' F' => ∀ d e, ds[n]? = some d → es[n]? = some e → Go K g ((δ'.set i (.da d)).set j (.da e)) μ' tb F') :
    ∃ W : Nat → Nat → L2.St → Hp → Prop, (∃ m, W 0 m σ H1) ∧ ∀ n m σ H, W n m σ H →
      ((ItzT K a b).stop n H ∧ D.nx σ H) ∨ ((ItzT K a b).go n H ∧ ∃ N : L2.St → Hp → Prop, (∀ σ' H', N σ' H' → ∃ m', m' < m ∧ W (n + 1) m' σ' H') ∧ ∀ v H', (ItzT K a b).yld n H v H' → gTup K 2 (gCons (gName i) (gCons (gName j) gNil)) v σ H' fun σ2 H2 => tb { D with nx := N, ct := N, bk := D.nx } σ2 H2) := by
  obtain ⟨i0, is, id⟩ := ht
  have lx := DpAll.len h3
  have ly := DpAll.len h5
  refine ⟨fun n m σ H => m = min ds.length es.length - n ∧ n ≤ min ds.length es.length ∧ Iz K g B1 (Iv n) σ H, ⟨_, rfl, Nat.zero_le _, δ, μ1, B1, i0, c1, Same.rfl'⟩, fun n m σ' H' ⟨em, il, δ', μ', B', hi, c', s'⟩ => ?_⟩
  have qa : SqT K H' a xs := same_t c'.bh (same_t s' h2)
  have qb : SqT K H' b ys := same_t c'.bh (same_t s' h4)
  by_cases hlt : n < min ds.length es.length
  · right
    have l1 : n < xs.length := by omega
    have l2 : n < ys.length := by omega
    refine ⟨⟨xs, ys, _, _, qa, qb, List.getElem?_eq_getElem l1, List.getElem?_eq_getElem l2⟩, Iz K g B1 (Iv (n + 1)), fun σ2 H2 z => ⟨min ds.length es.length - (n + 1), by omega, rfl, hlt, z⟩, fun v H2 yl => ?_⟩
    obtain ⟨T, x, y, rfl, hT, rfl, hx, hy⟩ := yl
    have hx' := hx xs qa
    have hy' := hy ys qb
    obtain ⟨d, hd, hr⟩ := DpAll.get' h3 hx'
    obtain ⟨e, he, hr'⟩ := DpAll.get' h5 hy'
    refine pair_run c' hT (dp_same s' hr) (dp_same s' hr') fun σ2 B2 s2 c2 => ?_
    exact is n δ' μ' hlt hi d e hd he σ2 _ B2 c2 _ (fits_turn f1 (s'.trans s2))
  · left
    have : n = min ds.length es.length := by omega
    subst this
    exact ⟨⟨xs, ys, qa, qb, by omega⟩, f1.nx _ _ _ _ _ (id _ _ hi) c' s'⟩
/-- for a, b in zip(t, u): tuples -/
theorem go_forZ {i j : Nat} (h : EvA K g δ μ ta fun ws μ1 => ∃ ds es, ws = [dT ds, dT es] ∧ ∃ Iv, Turns (min ds.length es.length) δ μ1 F Iv fun n δ' μ' F' => ∀ d e, ds[n]? = some d → es[n]? = some e → Go K g ((δ'.set i (.da d)).set j (.da e)) μ' tb F') : Go K g δ μ (tFor (iZipA K ta) (gTup K 2 (gCons (gName i) (gCons (gName j) gNil))) tb) F := fun σ H B c D f =>
  h σ H B c _ fun ws μ1 vs H1 B1 h1 c1 s1 r1 => by
    obtain ⟨ds, es, e, Iv, ht⟩ := h1
    subst e
    obtain ⟨v, v', rfl, r2, r3⟩ := rl2 r1
    obtain ⟨a, xs, rfl, h2, h3⟩ := dp_tup r2
    obtain ⟨b, ys, rfl, h4, h5⟩ := dp_tup r3
    exact ⟨a, b, xs, ys, rfl, .inr ⟨same_t c1.bh h2, same_t c1.bh h4, turns_zipT c1 (f.mono s1) h2 h3 h4 h5 ht⟩⟩
/-- [.. for a, b in zip(t, u)]: tuples -/
theorem ev_lcZ {i j : Nat} {vs : List Nat} (hi : i ∈ vs) (hj : j ∈ vs) (h : EvA K g δ μ ta fun ws μ1 => ∃ ds es, ws = [dT ds, dT es] ∧ ∃ Iv, LcT K g (min ds.length es.length) μ1 k Iv fun n acc μ' Jv => ∀ d e, ds[n]? = some d → es[n]? = some e → Elt K g (((wipeS δ vs).set i (.da d)).set j (.da e)) tt te μ' acc Jv) : Ev K g δ μ (tLc (iZipA K ta) (gTup K 2 (gCons (gName i) (gCons (gName j) gNil))) tt te vs) k := fun σ H B c Q hq =>
  h σ H B c _ fun ws μ1 us H1 B1 h1 c1 s1 r1 => by
    obtain ⟨ds, es, e, Iv, hz, i0, is, id⟩ := h1
    subst e
    obtain ⟨v, v', rfl, r2, r3⟩ := rl2 r1
    obtain ⟨a, xs, rfl, h2, h3⟩ := dp_tup r2
    obtain ⟨b, ys, rfl, h4, h5⟩ := dp_tup r3
    have lx := DpAll.len h3
    have ly := DpAll.len h5
    refine ⟨a, b, xs, ys, rfl, .inr ⟨same_t c1.bh h2, same_t c1.bh h4, fun Dl hD => ?_⟩⟩
    refine ⟨fun n m H => m = min ds.length es.length - n ∧ n ≤ min ds.length es.length ∧ LcI K g δ B1 Dl n (Iv n) σ H, ⟨_, rfl, Nat.zero_le _, lcI_start c1 hD i0⟩, fun n m H' ⟨em, il, acc, μ', B', ha, hv, c', s'⟩ => ?_⟩
    have qa : SqT K H' a xs := same_t c'.bh (same_t s' h2)
    have qb : SqT K H' b ys := same_t c'.bh (same_t s' h4)
    by_cases hlt : n < min ds.length es.length
    · right
      have l1 : n < xs.length := by omega
      have l2 : n < ys.length := by omega
      refine ⟨⟨xs, ys, _, _, qa, qb, List.getElem?_eq_getElem l1, List.getElem?_eq_getElem l2⟩, LcI K g δ B1 Dl (n + 1) (Iv (n + 1)) σ, fun H2 z => ⟨min ds.length es.length - (n + 1), by omega, rfl, hlt, z⟩, fun v H2 yl => ?_⟩
      obtain ⟨T, x, y, rfl, hT, rfl, hx, hy⟩ := yl
      obtain ⟨d, hd, hr⟩ := DpAll.get' h3 (hx xs qa)
      obtain ⟨e, he, hr'⟩ := DpAll.get' h5 (hy ys qb)
      obtain ⟨c2, s2⟩ := (c'.wipe vs).new (o := .tup [x, y]) hT
      refine ⟨T, [x, y], rfl, .inl (.inl upd_same), rfl, x, [y], rfl, y, [], rfl, rfl, ?_⟩
      have hw : L2.wipe (((L2.wipe σ vs).set i (some x)).set j (some y)) vs = L2.wipe σ vs := by
        apply List.ext_getElem?
        intro q
        rw [wipe_get, wipe_get, List.length_set, List.length_set, wipe_length]
        by_cases hq : q ∈ vs ∧ q < σ.length
        · rw [if_pos hq, if_pos hq]
        · rw [if_neg hq, if_neg hq]
          by_cases z : j = q
          · subst z
            have hz : ¬ j < σ.length := fun z => hq ⟨hj, z⟩
            rw [List.getElem?_eq_none (by rw [List.length_set, List.length_set, wipe_length]; omega), List.getElem?_eq_none (by omega)]
          · rw [List.getElem?_set_ne z]
            by_cases z : i = q
            · subst z
              have hz : ¬ i < σ.length := fun z => hq ⟨hi, z⟩
              rw [List.getElem?_eq_none (by rw [List.length_set, wipe_length]; omega), List.getElem?_eq_none (by omega)]
            · rw [List.getElem?_set_ne z, wipe_get, if_neg hq]
      exact ⟨hw, elt_run c1 ((c2.store (i := i) (w := .da d) (dp_same (s'.trans s2) hr)).store (i := j) (w := .da e) (dp_same (s'.trans s2) hr')) (s'.trans s2) ha (by omega) (is n acc μ' hlt hv d e hd he)⟩
    · left
      have : n = min ds.length es.length := by omega
      subst this
      exact ⟨⟨xs, ys, qa, qb, by omega⟩, hq _ _ _ _ _ (id acc μ' hv Dl) c' (s1.trans s') rfl⟩

/-! ### comprehensions whose test and element change nothing -/
def outD (ds : List PyData) (p : PyData → Bool) (f : PyData → PyData) : List PyData := (ds.filter p).map f
/-- one thing's test and element -/
def PureE (K : PySem.W.Frag) (g : Gr) (δ : List Sl) (tt : TT) (te : TE) (μ : Mus) (b : Bool) (d : PyData) : Prop :=
  ∀ μ', EvB K g δ (μ ++ μ') tt fun b' μ2 => b' = b ∧ μ2 = μ ++ μ' ∧ (b = true → Ev K g δ (μ ++ μ') te fun w μ3 => w = .da d ∧ μ3 = μ ++ μ')
theorem elt_pure {μ0 : Mus} {acc : List Sl} {b : Bool} {d : PyData} {Jv : List Sl → Mus → Prop} (h : PureE K g δ tt te μ0 b d) (hj : Jv (if b then acc ++ [.da d] else acc) μ0) : Elt K g δ tt te μ0 acc Jv := fun Dl σ H B c Q hq =>
  h [(Dl, .lis acc)] σ H B c Q fun b' μ2 H1 B1 ⟨e1, e2, h3⟩ c1 s1 => by
    subst e1 e2
    refine hq b' _ H1 B1 ⟨μ0, rfl, fun hb σ2 H2 B2 c2 Q2 hq2 => ?_, fun hb => by subst hb; exact hj⟩ c1 s1
    subst hb
    refine h3 rfl σ2 H2 B2 c2 Q2 fun w μ3 v H3 B3 ⟨e3, e4⟩ c3 s3 r3 => ?_
    subst e3 e4
    exact hq2 _ _ _ _ _ ⟨μ0, rfl, hj⟩ c3 s3 r3
theorem lct_pure {ds : List PyData} {p : PyData → Bool} {f : PyData → PyData} {μ1 : Mus} (hl : ds.length < 90000) (hm : ∀ x, x ∈ g.ms → x ∈ μ1.map (·.1)) (hk : k (dL (outD ds p f)) μ1) (body : Nat → List Sl → Mus → (List Sl → Mus → Prop) → Prop)
    (hb : ∀ n acc d Jv, ds[n]? = some d → Jv (if p d then acc ++ [.da (f d)] else acc) μ1 → body n acc μ1 Jv) :
    LcT K g ds.length μ1 (fun w μ' => ∃ q es μ2, w = .va (.ref q) ∧ μ' = μ2 ++ [(q, .lis (es.map Sl.da))] ∧ (∀ x, x ∈ g.ms → x ∈ μ2.map (·.1)) ∧ k (dL es) μ2) (fun i acc μ' => μ' = μ1 ∧ acc = (outD (ds.take i) p f).map Sl.da) body := by
  refine ⟨hl, ⟨rfl, rfl⟩, fun i acc μ' hi ⟨e1, e2⟩ => ?_, fun acc μ' ⟨e1, e2⟩ q => ?_⟩
  · subst e1
    refine hb i acc _ _ (List.getElem?_eq_getElem hi) ⟨rfl, ?_⟩
    rw [List.take_add_one, List.getElem?_eq_getElem hi, Option.toList_some, e2]
    unfold outD
    rw [List.filter_append, List.map_append, List.map_append]
    by_cases hp : p ds[i] = true
    · rw [if_pos hp, List.filter_cons, if_pos hp]; rfl
    · rw [if_neg hp, List.filter_cons, if_neg hp]; simp
  · subst e1
    rw [List.take_of_length_le (Nat.le_refl _)] at e2
    exact ⟨q, outD ds p f, _, rfl, by rw [e2], hm, hk⟩
theorem ev_compL {j : Nat} {vs : List Nat} (hj : j ∈ vs) (h : Ev K g δ μ tl fun w μ1 => ∃ ds, w = dL ds ∧ ∃ p f, ds.length < 90000 ∧ (∀ x, x ∈ g.ms → x ∈ μ1.map (·.1)) ∧ (∀ d, d ∈ ds → PureE K g ((wipeS δ vs).set j (.da d)) tt te μ1 (p d) (f d)) ∧ k (dL (outD ds p f)) μ1) : Ev K g δ μ (tLc (iList K tl) (gName j) tt te vs) k :=
  ev_frz (ev_lcL hj (h.imp fun w μ1 ⟨ds, e, p, f, hl, hm, hb, hk⟩ => ⟨ds, e, _, lct_pure hl hm hk _ fun n acc d Jv hd hJ d' hd' => by
    rw [hd] at hd'; cases hd'
    exact elt_pure (hb d (List.mem_of_getElem? hd)) hJ⟩))
theorem ev_compT {j : Nat} {vs : List Nat} (hj : j ∈ vs) (h : Ev K g δ μ tl fun w μ1 => ∃ ds, w = dT ds ∧ ∃ p f, ds.length < 90000 ∧ (∀ x, x ∈ g.ms → x ∈ μ1.map (·.1)) ∧ (∀ d, d ∈ ds → PureE K g ((wipeS δ vs).set j (.da d)) tt te μ1 (p d) (f d)) ∧ k (dL (outD ds p f)) μ1) : Ev K g δ μ (tLc (iTup K tl) (gName j) tt te vs) k :=
  ev_frz (ev_lcT hj (h.imp fun w μ1 ⟨ds, e, p, f, hl, hm, hb, hk⟩ => ⟨ds, e, _, lct_pure hl hm hk _ fun n acc d Jv hd hJ d' hd' => by
    rw [hd] at hd'; cases hd'
    exact elt_pure (hb d (List.mem_of_getElem? hd)) hJ⟩))
def intsD (lo : Int) (n : Nat) : List PyData := (List.range n).map fun (i : Nat) => PyData.int (lo + (i : Int))
theorem intsD_get {lo : Int} {n i : Nat} (h : i < n) : (intsD lo n)[i]? = some (.int (lo + i)) := by
  unfold intsD
  rw [List.getElem?_map, List.getElem?_range h]; rfl
theorem intsD_len {lo : Int} {n : Nat} : (intsD lo n).length = n := by unfold intsD; simp
theorem ev_compR1 {j : Nat} {vs : List Nat} (hj : j ∈ vs) (h : EvA K g δ μ ta fun ws μ1 => ∃ hi : Int, ws = [dI hi] ∧ small hi ∧ ∃ p f, hi.toNat < 90000 ∧ (∀ x, x ∈ g.ms → x ∈ μ1.map (·.1)) ∧ (∀ i : Nat, i < hi.toNat → PureE K g ((wipeS δ vs).set j (dI i)) tt te μ1 (p (.int i)) (f (.int i))) ∧ k (dL (outD (intsD 0 hi.toNat) p f)) μ1) : Ev K g δ μ (tLc (iRng1 ta) (gName j) tt te vs) k :=
  ev_frz (ev_lcR1 hj (fun σ H B c Q hq => h σ H B c Q fun ws μ1 us H1 B1 ⟨hi, e, sm, p, f, hl, hm, hb, hk⟩ => hq ws μ1 us H1 B1 ⟨hi, e, sm, _, by
    have hl' : (intsD 0 hi.toNat).length < 90000 := by rw [intsD_len]; exact hl
    have := lct_pure (K := K) (g := g) (ds := intsD 0 hi.toNat) hl' hm hk (fun i acc μ' Jv => i < hi.toNat → Elt K g ((wipeS δ vs).set j (dI i)) tt te μ' acc Jv) fun n acc d Jv hd hJ hn => by
      rw [intsD_get hn] at hd; cases hd
      rw [Int.zero_add] at hJ
      exact elt_pure (hb n hn) hJ
    rw [intsD_len] at this
    obtain ⟨q1, q2, q3, q4⟩ := this
    exact ⟨q1, q2, fun i acc μ' hi' hv => q3 i acc μ' hi' hv hi', q4⟩⟩))
theorem ev_compR2 {j : Nat} {vs : List Nat} (hj : j ∈ vs) (h : EvA K g δ μ ta fun ws μ1 => ∃ lo hi : Int, ws = [dI lo, dI hi] ∧ small lo ∧ small hi ∧ ∃ p f, (hi - lo).toNat < 90000 ∧ (∀ x, x ∈ g.ms → x ∈ μ1.map (·.1)) ∧ (∀ i : Nat, i < (hi - lo).toNat → PureE K g ((wipeS δ vs).set j (dI (lo + i))) tt te μ1 (p (.int (lo + i))) (f (.int (lo + i)))) ∧ k (dL (outD (intsD lo (hi - lo).toNat) p f)) μ1) : Ev K g δ μ (tLc (iRng2 ta) (gName j) tt te vs) k :=
  ev_frz (ev_lcR2 hj (fun σ H B c Q hq => h σ H B c Q fun ws μ1 us H1 B1 ⟨lo, hi, e, sm, sm2, p, f, hl, hm, hb, hk⟩ => hq ws μ1 us H1 B1 ⟨lo, hi, e, sm, sm2, _, by
    have hl' : (intsD lo (hi - lo).toNat).length < 90000 := by rw [intsD_len]; exact hl
    have := lct_pure (K := K) (g := g) (ds := intsD lo (hi - lo).toNat) hl' hm hk (fun i acc μ' Jv => i < (hi - lo).toNat → Elt K g ((wipeS δ vs).set j (dI (lo + i))) tt te μ' acc Jv) fun n acc d Jv hd hJ hn => by
      rw [intsD_get hn] at hd; cases hd
      exact elt_pure (hb n hn) hJ
    rw [intsD_len] at this
    obtain ⟨q1, q2, q3, q4⟩ := this
    exact ⟨q1, q2, fun i acc μ' hi' hv => q3 i acc μ' hi' hv hi', q4⟩⟩))
/-- no test -/
theorem pureE_all {μ0 : Mus} {d : PyData} (h : ∀ μ', Ev K g δ (μ0 ++ μ') te fun w μ3 => w = .da d ∧ μ3 = μ0 ++ μ') : PureE K g δ tYes te μ0 true d := fun μ' => eb_yes ⟨rfl, rfl, fun _ => h μ'⟩
end
end De
end
section
set_option Elab.async false
set_option linter.all false
set_option maxRecDepth 100000
set_option maxHeartbeats 2000000
/-! Rules for tuples and lists of texts. -/
namespace De
open PySem L2 PySem.Spec PyProof.Rows RZ
section
variable {K : PySem.W.Frag} {g : Gr} {δ : List Sl} {μ : Mus} {k : Sl → Mus → Prop} {F : AE} {te : TE} {tt : TT} {ta : TA} {tl : TE} {tb : TS} {ss ts : List Str}
theorem oc_len_tS (q : k (dI ss.length) μ) : OpC K g δ (Evl.rLenS K) [.da (tS ss)] μ k := oc_len_t (by rw [List.length_map]; exact q)
theorem oc_len_lS (q : k (dI ss.length) μ) : OpC K g δ (Evl.rLenS K) [.da (lS ss)] μ k := oc_len_l (by rw [List.length_map]; exact q)
theorem os_from {i : Int} {n : Nat} (e : i = (n : Int)) (q : k (.da (tS (ss.drop n))) μ) : OpSl K g δ (rSlF K) (.da (tS ss)) (some i) none μ k := os_tup (by rw [e, cut_map, cut_from]; exact q)
theorem os_to {i : Int} {n : Nat} (e : i = (n : Int)) (q : k (.da (tS (ss.take n))) μ) : OpSl K g δ (rSlF K) (.da (tS ss)) none (some i) μ k := os_tup (by rw [e, cut_map, cut_to]; exact q)
theorem os_one {i j : Int} {n : Nat} (e : i = (n : Int)) (e' : j = (n : Int) + 1) (q : k (.da (tS ((ss.drop n).take 1))) μ) : OpSl K g δ (rSlF K) (.da (tS ss)) (some i) (some j) μ k := os_tup (by rw [e, e', cut_map, show ((n : Int) + 1) = ((n + 1 : Nat) : Int) from rfl, cut_one]; exact q)
theorem o_ixS {i : Int} {n : Nat} {x : Str} (e : i = (n : Int)) (h : ss[n]? = some x) (q : k (dS x) μ) : Op2 K g δ (rIx K) (.da (tS ss)) (dI i) μ k := o_ixT (atI_ofNat e (by rw [List.getElem?_map, h]; rfl)) q
theorem o_catS (hz : ss.length + ts.length ≤ 100000) (q : k (.da (tS (ss ++ ts))) μ) : Op2 K g δ (rCatF K) (.da (tS ss)) (.da (tS ts)) μ k := o_cat (by rw [List.length_map, List.length_map]; exact sz_ok hz) (by rw [← List.map_append]; exact q)
theorem oc_tup_lS (q : k (.da (tS ss)) μ) : OpC K g δ (rTupF K) [.da (lS ss)] μ k := oc_tup_l q
/-- slots -/
theorem Go.slots {δ' : List Sl} {t : TS} (e : δ = δ') (h : Go K g δ' μ t F) : Go K g δ μ t F := e ▸ h
theorem ret_pu {D : List Sl → Sl → Prop} {ws : List Sl} {k1 : Sl → Mus → Prop} {w : Sl} {r : Sl} (eg : g.ms = []) (hk : k1 r []) (e : w = r) : RetK g k1 w μ := ⟨[], [], List.nil_sublist _, by rw [eg]; rfl, e ▸ hk⟩
end
/-- a pure def: its promise from its body -/
theorem pu_go {K : PySem.W.Frag} {g : Gr} {N : List Str} {t : TS} {D : List Sl → Sl → Prop} {ws : List Sl} {μ : Mus} {k : Sl → Mus → Prop} (eg : g.ms = μ.map (·.1)) (h : pu D ws μ k)
    (b : ∀ r, D ws r → g.ms = [] → Go K g (slots0 N ws) [] t { nx := fun _ _ => r = dN, rt := fun w _ => w = r }) : Go K g (slots0 N ws) μ t (endAE g k) := by
  obtain ⟨rfl, r, hd, hk⟩ := h
  refine (b r hd eg).imp (fun _ m e => ?_) (fun w m e => ?_) (fun _ _ h => h.elim) (fun _ _ h => h.elim)
  · subst e; exact ⟨[], [], List.nil_sublist _, by rw [show g.ms = [] from eg]; rfl, hk⟩
  · subst e; exact ⟨[], [], List.nil_sublist _, by rw [show g.ms = [] from eg]; rfl, hk⟩
end De
namespace De
open PySem L2
theorem cx_K {CX : CXT} {P : Program} {w : World} {K : PySem.W.Frag} {mg : Str → Option Value} {base : Heap} {N : List Str} {q : Str} {sc : Scope} {f : Addr} {cdv : Value} {A : Around} {outer : List Env} {s : Shared} {H : Hp} {E : XK} : (cxOf CX P w K mg base N q sc f cdv A outer s H E).nox.K = K := rfl
end De
namespace De
open PySem L2
theorem cx_K' {CX : CXT} {P : Program} {w : World} {K : PySem.W.Frag} {mg : Str → Option Value} {base : Heap} {N : List Str} {q : Str} {sc : Scope} {f : Addr} {cdv : Value} {A : Around} {outer : List Env} {s : Shared} {H : Hp} {E : XK} : (cxOf CX P w K mg base N q sc f cdv A outer s H E).K = K := rfl
end De
end
section
set_option Elab.async false
set_option linter.all false
set_option maxRecDepth 100000
set_option maxHeartbeats 2000000
/-! A range downwards; a dict of texts. -/
namespace De
open PySem L2 PySem.Spec PyProof.Rows RZ
section
variable {K : PySem.W.Frag} {g : Gr} {δ : List Sl} {μ : Mus} {k : Sl → Mus → Prop} {F : AE} {te td tv : TE} {tt : TT} {ta : TA} {tl : TE} {tb : TS}
theorem go_forD {j : Nat} (h : EvA K g δ μ ta fun ws μ1 => ∃ hi lo : Int, ws = [dI hi, dI lo, dI (-1)] ∧ small hi ∧ small lo ∧ ∃ Iv, Turns (hi - lo).toNat δ μ1 F Iv fun i δ' μ' F' => Go K g (δ'.set j (dI (hi - i))) μ' tb F') : Go K g δ μ (tFor (iRng3 ta) (gName j) tb) F := fun σ H B c D f =>
  h σ H B c _ fun ws μ1 vs H1 B1 h1 c1 s1 r1 => by
    obtain ⟨hi, lo, e, sm, sm2, Iv, i0, is, id⟩ := h1
    subst e
    obtain ⟨v, v', v'', rfl, r2, r3, r4⟩ := rl3 r1
    have f1 := f.mono s1
    refine ⟨hi, lo, -1, (hi - lo).toNat, by rw [dp_int r2, dp_int r3, dp_int r4], RgC.neg sm.1 sm.2 sm2.1 sm2.2, for_rangeC (fun i => Iz K g B1 (Iv i)) ⟨δ, μ1, B1, i0, c1, Same.rfl'⟩ (fun i σ' H' hx ⟨δ', μ', B', hi', c', s'⟩ => ?_) (fun σ' H' ⟨δ', μ', B', hi', c', s'⟩ => f1.nx _ _ _ _ _ (id _ _ hi') c' s')⟩
    have e : hi + (i : Nat) * (-1 : Int) = hi - i := by omega
    rw [e]
    exact is i δ' μ' hx hi' _ H' B' (c'.store (w := dI (hi - i)) (.int _)) _ (fits_turn f1 s')
theorem ev_dnew (h : ∀ p, k (.va (.ref p)) (μ ++ [(p, .obj (.dK []))])) : Ev K g δ μ tDNewK k := fun σ H B c Q hq p hp => hq _ _ _ _ _ (h p) (c.newM hp upd_same) Same.rfl' rfl
theorem go_dput (h : Ev K g δ μ tv fun w μ1 => Ev K g δ μ1 td fun w2 μ2 => Ev K g δ μ2 te fun w3 μ3 => ∃ (a : Addr) (j : Nat) (kvs : List (Key × V)) (s : Str) (b : Bool), w = dB b ∧ w2 = .va (.ref a) ∧ w3 = dS s ∧ μ3[j]? = some (a, .obj (.dK kvs)) ∧ kvs.length < 90000 ∧ F.nx δ (μ3.set j (a, .obj (.dK (putK kvs (Sum.inr s) (.bl b)))))) : Go K g δ μ (sDPut td te tv) F := fun σ H B c D f =>
  h σ H B c _ fun w μ1 v H1 B1 h1 c1 s1 r1 => h1 σ H1 B1 c1 _ fun w2 μ2 v2 H2 B2 h2 c2 s2 r2 => h2 σ H2 B2 c2 _ fun w3 μ3 v3 H3 B3 h3 c3 s3 r3 => by
    obtain ⟨a, j, kvs, s, b, rfl, rfl, rfl, hj, hl, hk⟩ := h3
    cases dp_bool r1
    cases (show v2 = _ from r2)
    cases dp_str r3
    have ha : H3 a = some (.dK kvs) := (c3.mu _ (get_addr hj)).1
    exact ⟨a, _, rfl, DPut.k (k := Sum.inr s) ha (sz_lt (by omega)), f.nx _ _ _ _ _ hk (c3.write hj (o := .dK (putK kvs (Sum.inr s) (.bl b))) upd_same) (s1.trans (s2.trans s3))⟩
theorem oc_lenD {a : Addr} {j : Nat} {kvs : List (Key × V)} (h : μ[j]? = some (a, .obj (.dK kvs))) (q : k (dI kvs.length) μ) : OpC K g δ (fun xs H Q => ∃ a kvs, xs = [V.ref a] ∧ H a = some (.dK kvs) ∧ Q (.int kvs.length) H) [.va (.ref a)] μ k := fun σ H B c vs r Q hq => by
  obtain ⟨v, rfl, r1⟩ := rl1 r
  cases (show v = _ from r1)
  exact ⟨a, kvs, rfl, (c.mu _ (get_addr h)).1, hq.go c q (.int _)⟩
end
end De
namespace De
open PySem L2 PySem.Spec PyProof.Rows
theorem pe_fldK {X : Cx} {K : PySem.W.Frag} {e : Expr} {f : Str} {pos : Pos} {ta : TE} (hK : X.K = K) (he : PE X e ta) (hb : attributeBase e f X.env (eval e X.env) = eval e X.env) : PE X (.Attribute e f pos) (tFld K ta f) := by
  subst hK; exact pe_fld he hb
end De
namespace De
open PySem L2 PySem.Spec PyProof.Rows
section
variable {K : PySem.W.Frag} {g : Gr} {δ : List Sl} {μ : Mus} {kb : Bool → Mus → Prop} {tt tu : TT}
/-- and, or of tests that change nothing: one answer -/
theorem eb_andP (h : EvB K g δ μ tt fun b μ1 => ∃ b2, (b = true → EvB K g δ μ1 tu fun b' μ2 => b' = b2 ∧ μ2 = μ1) ∧ kb (b && b2) μ1) : EvB K g δ μ (tAnd tt tu) kb := eb_and fun σ H B c Q hq => h σ H B c Q fun b μ1 H1 B1 ⟨b2, h1, h2⟩ => hq b μ1 H1 B1
  ⟨fun e σ H B c Q hq => h1 e σ H B c Q fun b' μ2 H2 B2 ⟨e1, e2⟩ => by
    subst e1 e2 e
    exact hq _ _ _ _ h2, fun e => by subst e; exact h2⟩
theorem eb_orP (h : EvB K g δ μ tt fun b μ1 => ∃ b2, (b = false → EvB K g δ μ1 tu fun b' μ2 => b' = b2 ∧ μ2 = μ1) ∧ kb (b || b2) μ1) : EvB K g δ μ (tOr tt tu) kb := eb_or fun σ H B c Q hq => h σ H B c Q fun b μ1 H1 B1 ⟨b2, h1, h2⟩ => hq b μ1 H1 B1
  ⟨fun e σ H B c Q hq => h1 e σ H B c Q fun b' μ2 H2 B2 ⟨e1, e2⟩ => by
    subst e1 e2 e
    exact hq _ _ _ _ h2, fun e => by subst e; exact h2⟩
end
theorem outD_str {ss : List Str} {p : PyData → Bool} {q : Str → Bool} (h : ∀ s, s ∈ ss → p (.str s) = q s) : outD (ss.map PyData.str) p id = (ss.filter q).map PyData.str := by
  unfold outD
  rw [List.map_id]
  induction ss with
  | nil => rfl
  | cons s ss ih =>
    have h2 := ih fun t ht => h t (List.mem_cons_of_mem _ ht)
    rw [List.map_cons, List.filter_cons, List.filter_cons, h s List.mem_cons_self, h2]
    cases q s <;> rfl
theorem outD_bool {ss : List Str} {f : PyData → PyData} {q : Str → Bool} (h : ∀ s, s ∈ ss → f (.str s) = .bool (q s)) : outD (ss.map PyData.str) (fun _ => true) f = (ss.map q).map PyData.bool := by
  unfold outD
  rw [show (ss.map PyData.str).filter (fun _ => true) = ss.map PyData.str from List.filter_eq_self.mpr fun _ _ => rfl]
  induction ss with
  | nil => rfl
  | cons s ss ih =>
    have h2 := ih fun t ht => h t (List.mem_cons_of_mem _ ht)
    rw [List.map_cons, List.map_cons, List.map_cons, List.map_cons, h s List.mem_cons_self, h2]
def strD : PyData → Str
  | .str s => s | _ => Str.empty
theorem mem_str {ss : List Str} {d : PyData} (h : d ∈ ss.map PyData.str) : ∃ s, d = .str s ∧ s ∈ ss := by
  obtain ⟨s, hs, rfl⟩ := List.mem_map.mp h
  exact ⟨s, rfl, hs⟩
end De
namespace De
open PySem L2 PySem.Spec PyProof.Rows
theorem outD_ints {lo : Int} {n : Nat} {p : PyData → Bool} {q : Nat → Bool} (h : ∀ i, i < n → p (.int (lo + (i : Nat))) = q i) : outD (intsD lo n) p id = ((List.range n).filter q).map fun (i : Nat) => PyData.int (lo + (i : Int)) := by
  unfold outD intsD
  rw [List.map_id]
  have : ∀ l : List Nat, (∀ i, i ∈ l → i < n) → List.filter p (l.map fun (i : Nat) => PyData.int (lo + (i : Int))) = (l.filter q).map fun (i : Nat) => PyData.int (lo + (i : Int)) := by
    intro l
    induction l with
    | nil => intro _; rfl
    | cons i l ih =>
      intro hl
      have h2 := ih fun t ht => hl t (List.mem_cons_of_mem _ ht)
      rw [List.map_cons, List.filter_cons, List.filter_cons, h i (hl i List.mem_cons_self), h2]
      cases q i <;> rfl
  exact this _ fun i hi => List.mem_range.mp hi
def intD : PyData → Int
  | .int i => i | _ => 0
end De
namespace De
open PySem L2 PySem.Spec PyProof.Rows
theorem ea_star {K : PySem.W.Frag} {g : Gr} {δ : List Sl} {μ : Mus} {te : TE} {t : TA} {ka : List Sl → Mus → Prop} (h : Ev K g δ μ te fun w μ1 => ∃ ds, w = dT ds ∧ EvA K g δ μ1 t fun ws μ2 => ka (ds.map Sl.da ++ ws) μ2) : EvA K g δ μ (StX.tStar K te t) ka := fun σ H B c Q hq =>
  h σ H B c _ fun w μ1 v H1 B1 h1 c1 s1 r1 => by
    obtain ⟨ds, e, hk⟩ := h1
    subst e
    obtain ⟨p, xs, rfl, h2, h3⟩ := dp_tup r1
    refine ⟨p, xs, rfl, .inl (same_t c1.bh h2), hk σ H1 B1 c1 _ fun ws μ2 vs H2 B2 h4 c2 s2 r2 => ?_⟩
    have app : ∀ {vs ws zs us}, RlAll K B2 vs ws → RlAll K B2 zs us → RlAll K B2 (vs ++ zs) (ws ++ us) := fun {vs ws zs us} a b => by
      induction a with
      | nil => exact b
      | cons h _ ih => exact .cons h ih
    exact hq _ _ _ _ _ h4 c2 (s1.trans s2) (app (rlAll_da.mpr (dpAll_same s2 h3)) r2)
end De
end
section
set_option Elab.async false
set_option linter.all false
set_option maxRecDepth 100000
set_option maxHeartbeats 2000000
/-! floors.py -/
namespace De
open PySem L2 PySem.Spec PyProof.Rows RZ
local macro_rules | `(tactic| walk_at "de") => `(tactic| first
  | with_reducible refine go_seq ?_
  | with_reducible refine go_set ?_
  | with_reducible refine go_ret ?_
  | with_reducible refine go_if ?_
  | with_reducible refine go_next ?_
  | with_reducible refine go_drop ?_
  | ((with_reducible apply ev_da); exact rfl)
  | ((with_reducible apply ev_va); exact rfl)
  | with_reducible refine ev_c ?_
  | with_reducible refine ev_op ?_
  | with_reducible refine ev_un ?_
  | with_reducible refine ea_nil ?_
  | with_reducible refine ea_cons ?_
  | with_reducible refine ev_sortset ?_
  | with_reducible refine ev_cb ?_
  | with_reducible refine eb_test ?_
  | with_reducible refine eb_B ?_
  | with_reducible refine eb_and ?_
  | with_reducible refine eb_or ?_
  | with_reducible refine eb_not ?_
  | with_reducible refine ev_andV ?_
  | with_reducible refine ev_orV ?_
  | with_reducible refine ev_notV ?_
  | with_reducible refine ev_if ?_
  | with_reducible refine ev_sl ?_
  | with_reducible refine eo_no ?_
  | with_reducible refine eo_some ?_
  | with_reducible refine ev_tup' ?_
  | with_reducible refine ev_callP ?_
  | with_reducible refine ev_callNP ?_
  | with_reducible refine ev_call ?_
  | with_reducible refine ev_callN ?_
  | with_reducible refine ev_chain ?_
  | with_reducible refine o_I0 ?_
  | with_reducible refine o_eqI ?_
  | with_reducible refine o_neI ?_
  | with_reducible refine o_eqS ?_
  | with_reducible refine o_neS ?_
  | with_reducible refine o_isN ?_
  | with_reducible refine o_notN ?_
  | with_reducible refine o_ltS ?_
  | with_reducible refine o_U ?_
  | with_reducible refine oc_len_tS ?_
  | with_reducible refine oc_len_lS ?_
  | with_reducible refine oc_len_t ?_
  | with_reducible refine oc_len_l ?_
  | with_reducible refine ev_dnew ?_
  | with_reducible refine oc_min2 ?_
  | with_reducible refine oc_max2 ?_
  | with_reducible refine oc_abs ?_
  | with_reducible refine oc_tup_lS ?_
  | with_reducible refine oc_tup_l ?_
  | with_reducible refine o_in ?_
  | with_reducible refine o_inL ?_
  | with_reducible refine eb_yes ?_
  | (refine Exists.intro _ (And.intro (show dats _ = some _ from rfl) (And.intro (show Nat.ble _ 60 = true from rfl) ?_)))
  | with_reducible refine Exists.intro _ (And.intro rfl ?_))
local macro_rules | `(tactic| walk_at "cx") => `(tactic| try simp only [cx_K, cx_K'])
local macro_rules | `(tactic| walk_at "go") => `(tactic| repeat walk_at "de")

section
variable {P : Program} {w : World} {K : PySem.W.Frag} {mg : Str → Option Value} {base : Heap}
/-! ### common_prefix -/
theorem sc1 : FnScope ["one", "other", "count", "first", "second"] ["one", "other"] (defScope (topS 1)) := ⟨rfl, rfl, rfl, by decide +kernel, rfl, by decide +kernel, by decide +kernel⟩
def D1 (ws : List Sl) (r : Sl) : Prop := ∃ a b, ws = [.da (tS a), .da (tS b)] ∧ a.length < 1000 ∧ r = dI (cp a b)
theorem cp_get : ∀ {a b : List Str} {n : Nat}, n ≤ cp a b → n < a.length → n < b.length → ((a[n]? = b[n]?) ↔ n + 1 ≤ cp a b)
  | [], _, _, _, h, _ => by simp at h
  | _ :: _, [], _, _, _, h => by simp at h
  | x :: a, y :: b, 0, _, _, _ => by
    unfold cp
    by_cases e : x = y
    · rw [if_pos e]; simp [e]
    · rw [if_neg e]; simp [e]
  | x :: a, y :: b, n + 1, h, h1, h2 => by
    unfold cp at h ⊢
    by_cases e : x = y
    · rw [if_pos e] at h ⊢
      have := cp_get (a := a) (b := b) (n := n) (by omega) (by simpa using h1) (by simpa using h2)
      simp only [List.getElem?_cons_succ]
      rw [this]; omega
    · rw [if_neg e] at h; omega
theorem ok1 (T : Tx K mg) : FnOk P w K mg base CX0 1 T.f1.a T.f1.d ["one", "other"] (spG K (pu D1)) := by
  refine fn_go T.f1.F sc1 (fun ws μ k h => by obtain ⟨_, _, ⟨_, _, rfl, _⟩, _⟩ := h; rfl) (fun cdv A outer s H E hr => ⟨_, (pss_cons (ps_set (i := 2) sc1.nd rfl (.inl rfl) pe_int)
      (pss_cons (ps_for PassesOwn.never rfl (pi_zipA (by rfl) T.z_zip (pa_cons (pv 0) (pa_cons (pv 1) pa_nil))) (pg_tup rfl (pgs_cons (pg_name (i := 3) sc1.nd rfl (.inl rfl)) (pgs_cons (pg_name (i := 4) sc1.nd rfl (.inl rfl)) pgs_nil))) (pss_cons (ps_if (pt_cmpR op_ne (pv 3) (pv 4) (nomark _)) (pss_one (ps_ret (pv 2))) pss_nil)
      (pss_one (ps_aug (i := 2) sc1.nd rfl (.inl rfl) pe_int ip_add))))
      (pss_one (ps_ret (pv 2))))), fun g ws μ k eg h => ?_⟩)
  refine pu_go eg h fun r hd eg => ?_
  obtain ⟨a, b, rfl, hl, rfl⟩ := hd
  walk_at "cx"
  walk_at "go"
  refine go_forZ ?_
  walk_at "go"
  refine ⟨_, _, rfl, fun n δ' μ' => ∃ x y, δ' = [.da (tS a), .da (tS b), dI n, x, y] ∧ μ' = [] ∧ n ≤ cp a b, ⟨_, _, rfl, rfl, Nat.zero_le _⟩, ?_, ?_⟩
  · rintro i δ' μ' hi ⟨x, y, rfl, rfl, hc⟩ d e hd he
    simp only [List.length_map] at hi
    have h1 : i < a.length := by omega
    have h2 : i < b.length := by omega
    rw [List.getElem?_map, List.getElem?_eq_getElem h1] at hd
    rw [List.getElem?_map, List.getElem?_eq_getElem h2] at he
    cases hd; cases he
    have key := cp_get hc h1 h2
    rw [List.getElem?_eq_getElem h1, List.getElem?_eq_getElem h2, Option.some.injEq] at key
    walk_at "go"
    refine ⟨fun h => ?_, fun h => ?_⟩
    · have h' : ¬ a[i] = b[i] := by simpa using h
      walk_at "go"
      show dI _ = dI _
      have : ¬ i + 1 ≤ cp a b := fun z => h' (key.mpr z)
      rw [show cp a b = i by omega]
    · have h' : a[i] = b[i] := by simpa using h
      walk_at "go"
      refine go_aug rfl ?_
      walk_at "go"
      exact ⟨_, _, rfl, rfl, key.mp h'⟩
  · rintro δ' μ' ⟨x, y, rfl, rfl, hc⟩
    simp only [List.length_map] at hc ⊢
    have h1 := cp_le_left a b
    have h2 := cp_le_right a b
    have : cp a b = min a.length b.length := by omega
    walk_at "go"
    show dI _ = dI _
    rw [this]
/-! ### distinct -/
theorem sc2 : FnScope ["values"] ["values"] (defScope (topS 2)) := ⟨rfl, rfl, rfl, by decide +kernel, rfl, by decide +kernel, by decide +kernel⟩
def D2 (ws : List Sl) (r : Sl) : Prop := ∃ a, ws = [.da (tS a)] ∧ a.length < 64 ∧ r = .da (lS (dist ltS a))
theorem ok2 (T : Tx K mg) : FnOk P w K mg base CX0 1 T.f2.a T.f2.d ["values"] (spG K (pu D2)) := by
  refine fn_go T.f2.F sc2 (fun ws μ k h => by obtain ⟨_, _, ⟨_, rfl, _⟩, _⟩ := h; rfl) (fun cdv A outer s H E hr => ⟨_, (pss_one (ps_ret (pe_callB (r := rSortedTx P w) (call_sortedTx rfl) (by rfl) T.z_sorted (by decide +kernel) (pa_cons (pe_callTy (r := rSetTx K P w) (call_setTx rfl) (by rfl) T.z_set (by decide +kernel) (pa_cons (pv 0) pa_nil)) pa_nil)))), fun g ws μ k eg h => ?_⟩)
  refine pu_go eg h fun r hd eg => ?_
  obtain ⟨a, rfl, hl, rfl⟩ := hd
  walk_at "cx"
  walk_at "go"
  exact ⟨hl, rfl⟩
/-! ### depth_of -/
theorem sc3 : FnScope ["target", "reach", "above", "depth"] ["target", "reach"] (defScope (topS 3)) := ⟨rfl, rfl, rfl, by decide +kernel, rfl, by decide +kernel, by decide +kernel⟩
def D3 (ws : List Sl) (r : Sl) : Prop := ∃ a k, ws = [.da (tS a), dI (k : Nat)] ∧ a.length < 1000 ∧ r = dI (depth ltS a k)
/-- the keys so far: the values above d -/
structure Abv (a : List Str) (d : Nat) (kvs : List (Key × V)) : Prop where
  nd : (kvs.map (·.1)).Nodup
  mem : ∀ x : Key, x ∈ kvs.map (·.1) ↔ ∃ s, x = Sum.inr s ∧ s ∈ a.drop d
  len : kvs.length ≤ a.length
theorem Abv.nd_eq {a : List Str} {d : Nat} {kvs : List (Key × V)} (h : Abv a d kvs) : kvs.length = De.nd ltS (a.drop d) := by
  have e1 : (kvs.map (·.1)).length ≤ ((dist ltS (a.drop d)).map (Sum.inr : Str → Key)).length := nodup_sub_len h.nd fun x hx => by
    obtain ⟨s, rfl, hs⟩ := (h.mem x).mp hx
    exact List.mem_map.mpr ⟨s, mem_dist.mpr hs, rfl⟩
  have e2 : ((dist ltS (a.drop d)).map (Sum.inr : Str → Key)).length ≤ (kvs.map (·.1)).length := by
    refine nodup_sub_len ?_ fun x hx => ?_
    · exact List.Pairwise.map _ (fun a b q e => q (by injection e)) (nodup_dist ltS_ord (a.drop d))
    · obtain ⟨s, hs, rfl⟩ := List.mem_map.mp hx
      exact (h.mem _).mpr ⟨s, rfl, mem_dist.mp hs⟩
  rw [List.length_map, List.length_map] at e1 e2
  unfold De.nd
  omega
theorem Abv.next {a : List Str} {d : Nat} {kvs : List (Key × V)} {x : Str} (h : Abv a (d + 1) kvs) (e : a[d]? = some x) (hl : kvs.length < a.length) : Abv a d (putK kvs (Sum.inr x) (.bl true)) := by
  have hd := (List.getElem?_eq_some_iff.mp e).1
  have ed : a.drop d = x :: a.drop (d + 1) := by
    rw [List.drop_eq_getElem_cons hd]
    congr 1
    exact (List.getElem?_eq_some_iff.mp e).2
  cases q : valV kvs (Sum.inr x) with
  | none =>
    rw [putK_new _ q]
    have hn : (Sum.inr x : Key) ∉ kvs.map (·.1) := fun z => by
      have := valV_any (Sum.inr x : Key) kvs
      rw [q] at this
      obtain ⟨p, hp, e⟩ := List.mem_map.mp z
      have h2 : (kvs.any fun kv => decide (kv.1 = (Sum.inr x : Key))) = true := List.any_eq_true.mpr ⟨p, hp, by simp [e]⟩
      rw [h2] at this
      simp at this
    refine ⟨?_, fun y => ?_, by rw [List.length_append, List.length_singleton]; omega⟩
    · rw [List.map_append, List.nodup_append]
      exact ⟨h.nd, by simp, fun a ha b hb => by simp at hb; subst hb; exact fun e => hn (e ▸ ha)⟩
    · rw [List.map_append, List.mem_append, h.mem, ed]
      simp only [List.map_cons, List.map_nil, List.mem_cons, List.not_mem_nil, or_false]
      constructor
      · rintro (⟨s, rfl, hs⟩ | rfl)
        · exact ⟨s, rfl, .inr hs⟩
        · exact ⟨x, rfl, .inl rfl⟩
      · rintro ⟨s, rfl, rfl | hs⟩
        · exact .inr rfl
        · exact .inl ⟨s, rfl, hs⟩
  | some v =>
    have ha : (kvs.any fun kv => decide (kv.1 = (Sum.inr x : Key))) = true := by rw [valV_any, q]; rfl
    have ek : (putK kvs (Sum.inr x) (.bl true)).map (·.1) = kvs.map (·.1) := by
      unfold putK
      rw [if_pos ha, List.map_map]
      apply List.map_congr_left
      intro p _
      simp only [Function.comp]
      split <;> rfl
    have hin : (Sum.inr x : Key) ∈ kvs.map (·.1) := by
      obtain ⟨p, hp, e⟩ := List.any_eq_true.mp ha
      exact List.mem_map.mpr ⟨p, hp, by simpa using e⟩
    refine ⟨by rw [ek]; exact h.nd, fun y => ?_, ?_⟩
    · rw [ek, h.mem, ed]
      constructor
      · rintro ⟨s, rfl, hs⟩
        exact ⟨s, rfl, List.mem_cons_of_mem _ hs⟩
      · rintro ⟨s, rfl, hs⟩
        rcases List.mem_cons.mp hs with rfl | hs
        · exact (h.mem _).mp hin
        · exact ⟨s, rfl, hs⟩
    · have := congrArg List.length ek
      rw [List.length_map, List.length_map] at this
      rw [this]; exact h.len
theorem depth_step {a : List Str} {k d : Nat} (h : depth ltS a k = depthFrom ltS a k (d + 1)) : if k < nd ltS (a.drop (d + 1)) then depth ltS a k = d + 1 else depth ltS a k = depthFrom ltS a k d := by
  rw [h]
  have e : depthFrom ltS a k (d + 1) = if k < nd ltS (a.drop (d + 1)) then d + 1 else depthFrom ltS a k d := rfl
  rw [e]
  by_cases q : k < nd ltS (a.drop (d + 1))
  · rw [if_pos q, if_pos q]
  · rw [if_neg q, if_neg q]
theorem ok3 (T : Tx K mg) : FnOk P w K mg base CX0 1 T.f3.a T.f3.d ["target", "reach"] (spG K (pu D3)) := by
  refine fn_go T.f3.F sc3 (fun ws μ k h => by obtain ⟨_, _, ⟨_, _, rfl, _⟩, _⟩ := h; rfl) (fun cdv A outer s H E hr => ⟨_, (pss_cons (ps_set (i := 2) sc3.nd rfl (.inl rfl) pe_dnewK)
      (pss_cons (ps_for PassesOwn.never rfl (pi_range3 rfl T.z_range (pa_cons (pe_op op_sub (pe_callB (r := Evl.rLenS K) call_lenS (by rfl) T.z_len (by decide +kernel) (pa_cons (pv 0) pa_nil)) pe_int) (pa_cons pe_int (pa_cons (pe_un un_neg pe_int) pa_nil)))) (pg_name (i := 3) sc3.nd rfl (.inl rfl)) (pss_cons (ps_dput (hu_of hr) (pv 2) (pe_ix (r := rIx K) ix_seq (pv 0) (pv 3) (fun _ _ => rfl)) pe_bl rfl)
      (pss_one (ps_if (pt_cmpR op_gt (pe_callB call_lenD (by rfl) T.z_len (by decide +kernel) (pa_cons (pv 2) pa_nil)) (pv 1) (nomark _)) (pss_one (ps_ret (pv 3))) pss_nil))))
      (pss_one (ps_ret pe_int)))), fun g ws μ k eg h => ?_⟩)
  refine pu_go eg h fun r hd eg => ?_
  obtain ⟨a, k, rfl, hl, rfl⟩ := hd
  walk_at "cx"
  walk_at "go"
  intro p
  walk_at "go"
  refine go_forD ?_
  walk_at "go"
  refine ⟨_, _, rfl, small_of (by omega) (by omega), small_of (by omega) (by omega), fun n δ' μ' => ∃ x kvs, δ' = [.da (tS a), dI k, .va (.ref p), x] ∧ μ' = [(p, .obj (.dK kvs))] ∧ Abv a (a.length - n) kvs ∧ kvs.length ≤ n ∧ n ≤ a.length - 1 ∧ depth ltS a k = depthFrom ltS a k (a.length - 1 - n), ⟨_, _, rfl, rfl, ⟨List.nodup_nil, fun x => by simp, Nat.zero_le _⟩, Nat.le_refl _, Nat.zero_le _, rfl⟩, ?_, ?_⟩
  · rintro i δ' μ' hi ⟨x, kvs, rfl, rfl, hA, hk, hi', hdep⟩
    have hi2 : i < a.length - 1 := by omega
    have e1 : ((a.length : Int) - 1 - (i : Int)) = ((a.length - 1 - i : Nat) : Int) := by omega
    obtain ⟨y, hy⟩ : ∃ y, a[a.length - 1 - i]? = some y := ⟨_, List.getElem?_eq_getElem (by omega)⟩
    have hA' : Abv a (a.length - 1 - i) (putK kvs (Sum.inr y) (.bl true)) := Abv.next (by rw [show a.length - 1 - i + 1 = a.length - i by omega]; exact hA) hy (by omega)
    have hn := hA'.nd_eq
    refine go_seq (go_dput ?_)
    walk_at "go"
    refine o_ixS e1 hy ?_
    refine ⟨p, 0, kvs, y, true, rfl, rfl, rfl, rfl, by omega, ?_⟩
    walk_at "go"
    refine oc_lenD (j := 0) rfl ?_
    walk_at "go"
    have hst := depth_step (a := a) (k := k) (d := a.length - 1 - i - 1) (by rw [show a.length - 1 - i - 1 + 1 = a.length - 1 - i by omega]; exact hdep)
    rw [show a.length - 1 - i - 1 + 1 = a.length - 1 - i by omega] at hst
    refine ⟨fun h => ?_, fun h => ?_⟩
    · have h' := of_decide_eq_true h
      rw [if_pos (by omega)] at hst
      walk_at "go"
      show dI _ = dI _
      rw [hst, e1]
    · have h' := of_decide_eq_false h
      rw [if_neg (by omega)] at hst
      have hlen : (putK kvs (Sum.inr y) (V.bl true)).length ≤ i + 1 := by
        unfold putK
        split
        · rw [List.length_map]; omega
        · rw [List.length_append]; simpa using hk
      walk_at "go"
      exact ⟨_, _, rfl, rfl, by rw [show a.length - (i + 1) = a.length - 1 - i by omega]; exact hA', hlen, by omega, by rw [show a.length - 1 - (i + 1) = a.length - 1 - i - 1 by omega]; exact hst⟩
  · rintro δ' μ' ⟨x, kvs, rfl, rfl, hA, hk, hi', hdep⟩
    walk_at "go"
    show dI _ = dI _
    rw [hdep, show a.length - 1 - ((a.length : Int) - 1 - 0).toNat = 0 by omega]
    rfl
/-! ### is_floor -/
theorem sc4 : FnScope ["stack", "target", "floor", "reach", "wanted", "value"] ["stack", "target", "floor", "reach"] (defScope (topS 4)) := ⟨rfl, rfl, rfl, by decide +kernel, rfl, by decide +kernel, by decide +kernel⟩
def D4 (ws : List Sl) (r : Sl) : Prop := ∃ S T f k, ws = [.da (tS S), .da (tS T), dI (f : Nat), dI (k : Nat)] ∧ Pil S ∧ Pil T ∧ r = dB (isFloor ltS S T f k)
theorem ok4 (T : Tx K mg) : FnOk P w K mg base CX0 2 T.f4.a T.f4.d ["stack", "target", "floor", "reach"] (spG K (pu D4)) := by
  refine fn_go T.f4.F sc4 (fun ws μ k h => by obtain ⟨_, _, ⟨_, _, _, _, rfl, _⟩, _⟩ := h; rfl) (fun cdv A outer s H E hr => ⟨_, (pss_cons (ps_if (PW.pt (pw_and (pt_cmpR op_gt (pv 2) pe_int (nomark _)) (pw_and1 (pt_cmpR op_gt (pe_op op_add (pe_op op_add (pv 2) (pv 3)) pe_int) (pe_callB (call_min2 rfl) (by rfl) T.z_min (by decide +kernel) (pa_cons (pe_callB (r := Evl.rLenS K) call_lenS (by rfl) T.z_len (by decide +kernel) (pa_cons (pv 0) pa_nil)) (pa_cons (pe_callB (r := Evl.rLenS K) call_lenS (by rfl) T.z_len (by decide +kernel) (pa_cons (pv 1) pa_nil)) pa_nil))) (nomark _))))) (pss_one (ps_ret pe_bl)) pss_nil)
      (pss_cons (ps_if (pt_cmpR (r := rNeD K) (op_neD hr.units) (pe_slice (r := rSlF K) sl_tupF (pv 0) po_none (po_some (pv 2))) (pe_slice (r := rSlF K) sl_tupF (pv 1) po_none (po_some (pv 2))) (nomark _)) (pss_one (ps_ret pe_bl)) pss_nil)
      (pss_cons (ps_set (i := 4) sc4.nd rfl (.inl rfl) (pe_call (ok2 T) (hr.mono (by decide)) (by rfl) T.f2.g T.f2.F.kp T.f2.b .nil pass0 (pa_cons (pe_slice (r := rSlF K) sl_tupF (pv 1) (po_some (pv 2)) po_none) pa_nil)))
      (pss_cons (ps_if (PW.pt (pw_or (pt_not (pt_val (pe_callB (r := rAll K) (cr_all rfl) (by rfl) T.z_all (by decide +kernel) (pa_cons (pe_lc (g := gName 5) (tt := tYes) (own := [("value", 5)]) rfl sc4.nd (pi_list (pv 4)) (blkOk_by (N := ["stack", "target", "floor", "reach", "wanted", "value"]) (sc := defScope (topS 4)) (own := [("value", 5)]) (by decide +kernel)) (fun _ _ _ _ _ => pg_name (i := 5) sc4.nd rfl (.inl rfl)) (fun _ _ _ _ _ => pts_nil) (fun _ _ _ _ _ => pe_cmpR (r := rIn K false) op_in_seq (pv 5) (pe_slice (r := rSlF K) sl_tupF (pv 0) (po_some (pv 2)) po_none) (by rfl))) pa_nil)))) (pw_or1 (pt_cmpR op_gt (pe_callB (r := Evl.rLenS K) call_lenS (by rfl) T.z_len (by decide +kernel) (pa_cons (pe_call (ok2 T) (hr.mono (by decide)) (by rfl) T.f2.g T.f2.F.kp T.f2.b .nil pass0 (pa_cons (pe_slice (r := rSlF K) sl_tupF (pv 1) (po_some (pe_op op_add (pv 2) pe_int)) po_none) pa_nil)) pa_nil)) (pv 3) (nomark _))))) (pss_one (ps_ret pe_bl)) pss_nil)
      (pss_one (ps_ret (pe_cmpR op_le (pe_callB (r := Evl.rLenS K) call_lenS (by rfl) T.z_len (by decide +kernel) (pa_cons (pe_lc (g := gName 5) (tt := _) (own := [("value", 5)]) rfl sc4.nd (pi_list (pv 4)) (blkOk_by (N := ["stack", "target", "floor", "reach", "wanted", "value"]) (sc := defScope (topS 4)) (own := [("value", 5)]) (by decide +kernel)) (fun _ _ _ _ _ => pg_name (i := 5) sc4.nd rfl (.inl rfl)) (fun _ _ _ _ _ => pts_one (pt_cmpR (r := rIn K true) op_notIn_seq (pv 5) (pe_slice (r := rSlF K) sl_tupF (pv 0) (po_some (pv 2)) (po_some (pe_op op_add (pv 2) pe_int))) (by rfl))) (fun _ _ _ _ _ => pv 5)) pa_nil)) (pv 3) (nomark _)))))))), fun g ws μ k eg h => ?_⟩)
  refine pu_go eg h fun r hd eg => ?_
  obtain ⟨S, U, f, k, rfl, pS, pU, rfl⟩ := hd
  walk_at "cx"
  have hS := pS.len
  have hU := pU.len
  refine go_seq (go_if (eb_andP ?_))
  walk_at "go"
  refine ⟨decide (min S.length U.length < f + k + 1), fun _ => ?_, ?_⟩
  · walk_at "go"
    refine ⟨?_, rfl⟩
    apply decide_eq_decide.mpr
    split <;> omega
  refine ⟨fun h1 => ?_, fun h1 => ?_⟩
  · walk_at "go"
    have h1' : 0 < f ∧ min S.length U.length < f + k + 1 := by simpa using h1
    show dB _ = dB _
    unfold isFloor
    rw [if_pos h1']
  have h1' : ¬ (0 < f ∧ min S.length U.length < f + k + 1) := fun z => by
    simp only [Bool.and_eq_false_imp, decide_eq_true_eq, decide_eq_false_iff_not] at h1
    omega
  walk_at "go"
  refine os_to rfl ?_
  walk_at "go"
  refine os_to rfl ?_
  refine o_neP (pS.take f) (pU.take f) ?_
  walk_at "go"
  refine ⟨fun h2 => ?_, fun h2 => ?_⟩
  · walk_at "go"
    have h2' : S.take f ≠ U.take f := by simpa using h2
    show dB _ = dB _
    unfold isFloor
    rw [if_neg h1', if_pos h2']
  have h2' : ¬ S.take f ≠ U.take f := by simpa using h2
  walk_at "go"
  refine os_from rfl ?_
  walk_at "go"
  refine ⟨_, ⟨U.drop f, rfl, by rw [List.length_drop]; omega, rfl⟩, ?_⟩
  have hw : (dist ltS (U.drop f)).length ≤ 60 := by
    have := nd_le ltS_ord (U.drop f)
    unfold nd at this
    rw [List.length_drop] at this
    omega
  refine go_seq (go_if (eb_orP ?_))
  walk_at "go"
  refine ev_compL (by simp) ?_
  walk_at "go"
  refine ⟨fun _ => true, fun d => .bool (decide (strD d ∈ S.drop f)), by rw [List.length_map]; omega, by rw [eg]; simp, fun d hd => pureE_all fun μ' => ?_, ?_⟩
  · obtain ⟨s, rfl, hs⟩ := mem_str hd
    walk_at "go"
    refine os_from rfl ?_
    walk_at "go"
    exact ⟨rfl, rfl⟩
  rw [outD_bool (q := fun s => decide (s ∈ S.drop f)) fun s _ => rfl]
  walk_at "go"
  refine oc_all ?_
  walk_at "go"
  refine ⟨decide (k < nd ltS (U.drop (f + 1))), fun _ => ?_, ?_⟩
  · walk_at "go"
    refine os_from (n := f + 1) (by omega) ?_
    walk_at "go"
    refine ⟨_, ⟨U.drop (f + 1), rfl, by rw [List.length_drop]; omega, rfl⟩, ?_⟩
    walk_at "go"
    refine ⟨?_, rfl⟩
    apply decide_eq_decide.mpr
    unfold nd
    omega
  have e3 : (((dist ltS (U.drop f)).map fun s => decide (s ∈ S.drop f)).all id) = ((dist ltS (U.drop f)).all fun v => decide (v ∈ S.drop f)) := by
    rw [List.all_map]; rfl
  rw [e3]
  refine ⟨fun h3 => ?_, fun h3 => ?_⟩
  · walk_at "go"
    have h3' : ((dist ltS (U.drop f)).all fun v => decide (v ∈ S.drop f)) = false ∨ k < nd ltS (U.drop (f + 1)) := by
      rw [Bool.or_eq_true, decide_eq_true_iff] at h3
      rcases h3 with h3 | h3
      · left; rw [Bool.not_eq_true'] at h3; exact h3
      · exact .inr h3
    show dB _ = dB _
    unfold isFloor
    rw [if_neg h1', if_neg h2', if_pos h3']
  have h3' : ¬ (((dist ltS (U.drop f)).all fun v => decide (v ∈ S.drop f)) = false ∨ k < nd ltS (U.drop (f + 1))) := by
    rw [Bool.or_eq_false_iff, decide_eq_false_iff_not] at h3
    rintro (z | z)
    · rw [z] at h3; simp at h3
    · exact h3.2 z
  walk_at "go"
  refine ev_compL (by simp) ?_
  walk_at "go"
  refine ⟨fun d => !decide (strD d ∈ (S.drop f).take 1), id, by rw [List.length_map]; omega, by rw [eg]; simp, fun d hd μ' => ?_, ?_⟩
  · obtain ⟨s, rfl, hs⟩ := mem_str hd
    walk_at "go"
    refine os_one rfl (by omega) ?_
    walk_at "go"
    refine ⟨rfl, rfl, fun _ => ?_⟩
    walk_at "go"
    exact ⟨rfl, rfl⟩
  rw [outD_str (q := fun s => !decide (s ∈ (S.drop f).take 1)) fun s _ => rfl]
  walk_at "go"
  show dB _ = dB _
  unfold isFloor
  rw [if_neg h1', if_neg h2', if_neg h3']
  refine congrArg dB (decide_eq_decide.mpr ?_)
  unfold others
  omega
/-! ### floors -/
theorem sc5 : FnScope ["stack", "target", "reach", "highest", "floor"] ["stack", "target", "reach"] (defScope (topS 5)) := ⟨rfl, rfl, rfl, by decide +kernel, rfl, by decide +kernel, by decide +kernel⟩
abbrev iD (l : List Nat) : PyData := .list (l.map fun (i : Nat) => PyData.int (i : Int))
def D5 (ws : List Sl) (r : Sl) : Prop := ∃ S T k, ws = [.da (tS S), .da (tS T), dI (k : Nat)] ∧ Pil S ∧ Pil T ∧ r = .da (iD (floorsL ltS S T k))
theorem ok5 (T : Tx K mg) : FnOk P w K mg base CX0 3 T.f5.a T.f5.d ["stack", "target", "reach"] (spG K (pu D5)) := by
  refine fn_go T.f5.F sc5 (fun ws μ k h => by obtain ⟨_, _, ⟨_, _, _, rfl, _⟩, _⟩ := h; rfl) (fun cdv A outer s H E hr => ⟨_, (pss_cons (ps_set (i := 3) sc5.nd rfl (.inl rfl) (pe_callB (call_min2 rfl) (by rfl) T.z_min (by decide +kernel) (pa_cons (pe_callB (r := Evl.rLenS K) call_lenS (by rfl) T.z_len (by decide +kernel) (pa_cons (pv 0) pa_nil)) (pa_cons (pe_callB (r := Evl.rLenS K) call_lenS (by rfl) T.z_len (by decide +kernel) (pa_cons (pv 1) pa_nil)) pa_nil))))
      (pss_one (ps_ret (pe_lc (g := gName 4) (tt := _) (own := [("floor", 4)]) rfl sc5.nd (pi_range1 rfl T.z_range (pa_cons (pe_op op_add (pv 3) pe_int) pa_nil)) (blkOk_by (N := ["stack", "target", "reach", "highest", "floor"]) (sc := defScope (topS 5)) (own := [("floor", 4)]) (by decide +kernel)) (fun _ _ _ _ _ => pg_name (i := 4) sc5.nd rfl (.inl rfl)) (fun _ _ _ _ _ => pts_one (pt_val (pe_callN (ok4 T) (hr.mono (by decide)) (by rfl) T.f4.g T.f4.F.kp T.f4.k pass0 (pa_cons (pv 0) (pa_cons (pv 1) (pa_cons (pv 4) pa_nil))) (pk_cons (pv 2) pk_nil)))) (fun _ _ _ _ _ => pv 4))))), fun g ws μ k eg h => ?_⟩)
  refine pu_go eg h fun r hd eg => ?_
  obtain ⟨S, U, k, rfl, pS, pU, rfl⟩ := hd
  have hS := pS.len
  have hU := pU.len
  walk_at "cx"
  walk_at "go"
  refine ev_compR1 (by simp) ?_
  walk_at "go"
  have e : ((if (U.length : Int) < S.length then (U.length : Int) else S.length) + 1).toNat = min S.length U.length + 1 := by split <;> omega
  rw [e]
  refine ⟨small_of (by omega) (by omega), fun d => isFloor ltS S U (intD d).toNat k, id, by omega, by rw [eg]; simp, fun i hi μ' => ?_, ?_⟩
  · walk_at "go"
    refine ⟨rfl, rfl, _, ⟨S, U, i, k, rfl, pS, pU, rfl⟩, _, rfl, rfl, rfl, fun _ => ?_⟩
    walk_at "go"
    exact ⟨rfl, rfl⟩
  show _ = _
  rw [outD_ints (q := fun f => isFloor ltS S U f k) fun i _ => by show isFloor ltS S U (0 + (i : Int)).toNat k = _; rw [show (0 + (i : Int)).toNat = i by omega]]
  unfold floorsL
  simp only [Int.zero_add]
/-! ### profile -/
theorem sc6 : FnScope ["target", "reach", "depth"] ["target", "reach"] (defScope (topS 6)) := ⟨rfl, rfl, rfl, by decide +kernel, rfl, by decide +kernel, by decide +kernel⟩
def D6 (ws : List Sl) (r : Sl) : Prop := ∃ T k, ws = [.da (tS T), dI (k : Nat)] ∧ Pil T ∧ r = dT [.int (depth ltS T k), tS (T.take (depth ltS T k)), tS (vals ltS T k)]
theorem ok6 (T : Tx K mg) : FnOk P w K mg base CX0 2 T.f6.a T.f6.d ["target", "reach"] (spG K (pu D6)) := by
  refine fn_go T.f6.F sc6 (fun ws μ k h => by obtain ⟨_, _, ⟨_, _, rfl, _⟩, _⟩ := h; rfl) (fun cdv A outer s H E hr => ⟨_, (pss_cons (ps_set (i := 2) sc6.nd rfl (.inl rfl) (pe_callN (ok3 T) (hr.mono (by decide)) (by rfl) T.f3.g T.f3.F.kp T.f3.k pass0 (pa_cons (pv 0) pa_nil) (pk_cons (pv 1) pk_nil)))
      (pss_one (ps_ret (pe_tupF (pa_cons (pv 2) (pa_cons (pe_slice (r := rSlF K) sl_tupF (pv 0) po_none (po_some (pv 2))) (pa_cons (pe_callTy (r := rTupF K) call_tupF (by rfl) T.z_tuple (by decide +kernel) (pa_cons (pe_call (ok2 T) (hr.mono (by decide)) (by rfl) T.f2.g T.f2.F.kp T.f2.b .nil pass0 (pa_cons (pe_slice (r := rSlF K) sl_tupF (pv 0) (po_some (pv 2)) po_none) pa_nil)) pa_nil)) pa_nil))))))), fun g ws μ k eg h => ?_⟩)
  refine pu_go eg h fun r hd eg => ?_
  obtain ⟨U, k, rfl, pU, rfl⟩ := hd
  have hU := pU.len
  walk_at "cx"
  walk_at "go"
  refine ⟨rfl, rfl, _, ⟨U, k, rfl, by omega, rfl⟩, ?_⟩
  walk_at "go"
  refine os_to rfl ?_
  walk_at "go"
  refine os_from rfl ?_
  walk_at "go"
  refine ⟨_, ⟨_, rfl, by rw [List.length_drop]; omega, rfl⟩, ?_⟩
  walk_at "go"
  rfl
end
end De
end
section
set_option Elab.async false
set_option linter.all false
set_option maxRecDepth 100000
set_option maxHeartbeats 2000000
/-! judge.py -/
namespace De
open PySem L2 PySem.Spec PyProof.Rows RZ
local macro_rules | `(tactic| walk_at "de") => `(tactic| first
  | with_reducible refine go_seq ?_
  | with_reducible refine go_set ?_
  | with_reducible refine go_ret ?_
  | with_reducible refine go_if ?_
  | with_reducible refine go_next ?_
  | with_reducible refine go_drop ?_
  | ((with_reducible apply ev_da); exact rfl)
  | ((with_reducible apply ev_va); exact rfl)
  | with_reducible refine ev_c ?_
  | with_reducible refine ev_op ?_
  | with_reducible refine ev_un ?_
  | with_reducible refine ea_nil ?_
  | with_reducible refine ea_cons ?_
  | with_reducible refine ev_sortset ?_
  | with_reducible refine ev_cb ?_
  | with_reducible refine eb_test ?_
  | with_reducible refine eb_B ?_
  | with_reducible refine eb_and ?_
  | with_reducible refine eb_or ?_
  | with_reducible refine eb_not ?_
  | with_reducible refine ev_andV ?_
  | with_reducible refine ev_orV ?_
  | with_reducible refine ev_notV ?_
  | with_reducible refine ev_if ?_
  | with_reducible refine ev_sl ?_
  | with_reducible refine eo_no ?_
  | with_reducible refine eo_some ?_
  | with_reducible refine ev_tup' ?_
  | with_reducible refine ev_callP ?_
  | with_reducible refine ev_callNP ?_
  | with_reducible refine ev_call ?_
  | with_reducible refine ev_callN ?_
  | with_reducible refine ev_chain ?_
  | with_reducible refine o_I0 ?_
  | with_reducible refine o_eqI ?_
  | with_reducible refine o_neI ?_
  | with_reducible refine o_eqS ?_
  | with_reducible refine o_neS ?_
  | with_reducible refine o_isN ?_
  | with_reducible refine o_notN ?_
  | with_reducible refine o_ltS ?_
  | with_reducible refine o_U ?_
  | with_reducible refine oc_len_tS ?_
  | with_reducible refine oc_len_lS ?_
  | with_reducible refine oc_len_t ?_
  | with_reducible refine oc_len_l ?_
  | with_reducible refine ev_dnew ?_
  | with_reducible refine oc_min2 ?_
  | with_reducible refine oc_max2 ?_
  | with_reducible refine oc_abs ?_
  | with_reducible refine oc_tup_lS ?_
  | with_reducible refine oc_tup_l ?_
  | with_reducible refine o_in ?_
  | with_reducible refine o_inL ?_
  | with_reducible refine eb_yes ?_
  | (refine Exists.intro _ (And.intro (show dats _ = some _ from rfl) (And.intro (show Nat.ble _ 60 = true from rfl) ?_)))
  | with_reducible refine Exists.intro _ (And.intro rfl ?_))
local macro_rules | `(tactic| walk_at "cx") => `(tactic| try simp only [cx_K, cx_K'])
local macro_rules | `(tactic| walk_at "go") => `(tactic| repeat walk_at "de")

def optS : Option Str → PyData
  | none => .none
  | some s => .str s
def whyT : Why Str → List PyData
  | .ground i => [.str "ground", .int (i : Nat)]
  | .missing v => [.str "missing", .str v]
  | .edge vs => [.str "edge", tS vs]
def whyD : Option (Why Str) → PyData
  | none => .none
  | some w => .tuple (whyT w)
section
variable {P : Program} {w : World} {K : PySem.W.Frag} {mg : Str → Option Value} {base : Heap}
/-! ### first_missing -/
theorem sc8 : FnScope ["stack", "values", "value"] ["stack", "values"] (defScope (topS 8)) := ⟨rfl, rfl, rfl, by decide +kernel, rfl, by decide +kernel, by decide +kernel⟩
def D8 (ws : List Sl) (r : Sl) : Prop := ∃ S vs, ws = [.da (tS S), .da (tS vs)] ∧ r = .da (optS (firstMissing S vs))
theorem ok8 (T : Tx K mg) : FnOk P w K mg base CX0 1 T.f8.a T.f8.d ["stack", "values"] (spG K (pu D8)) := by
  refine fn_go T.f8.F sc8 (fun ws μ k h => by obtain ⟨_, _, ⟨_, _, rfl, _⟩, _⟩ := h; rfl) (fun cdv A outer s H E hr => ⟨_, (pss_cons (ps_for PassesOwn.never rfl (pi_tup (pv 1)) (pg_name (i := 2) sc8.nd rfl (.inl rfl)) (pss_one (ps_if (pt_cmpR (r := rIn K true) op_notIn_seq (pv 2) (pv 0) (by rfl)) (pss_one (ps_ret (pv 2))) pss_nil)))
      (pss_one (ps_ret pe_non))), fun g ws μ k eg h => ?_⟩)
  refine pu_go eg h fun r hd eg => ?_
  obtain ⟨S, vs, rfl, rfl⟩ := hd
  walk_at "cx"
  walk_at "go"
  refine go_forT ?_
  walk_at "go"
  refine ⟨fun n δ' μ' => ∃ x, δ' = [.da (tS S), .da (tS vs), x] ∧ μ' = [] ∧ firstMissing S vs = firstMissing S (vs.drop n), ⟨_, rfl, rfl, rfl⟩, ?_, ?_⟩
  · rintro i δ' μ' hi ⟨x, rfl, rfl, hc⟩ d hd
    simp only [List.length_map] at hi
    rw [List.getElem?_map, List.getElem?_eq_getElem hi] at hd
    cases hd
    have e : vs.drop i = vs[i] :: vs.drop (i + 1) := List.drop_eq_getElem_cons hi
    rw [e] at hc
    unfold firstMissing at hc
    rw [List.find?_cons] at hc
    walk_at "go"
    refine ⟨fun h => ?_, fun h => ?_⟩
    · rw [if_pos rfl] at h
      rw [h] at hc
      walk_at "go"
      show dS _ = _
      unfold firstMissing
      rw [hc]; rfl
    · rw [if_pos rfl] at h
      rw [h] at hc
      walk_at "go"
      exact ⟨_, rfl, rfl, hc⟩
  · rintro δ' μ' ⟨x, rfl, rfl, hc⟩
    rw [List.length_map, List.drop_length] at hc
    walk_at "go"
    show dN = _
    rw [hc]; rfl
/-! ### barrier -/
theorem sc9 : FnScope ["stack", "target", "depth", "values", "reach", "shared", "missing"] ["stack", "target", "depth", "values", "reach"] (defScope (topS 9)) := ⟨rfl, rfl, rfl, by decide +kernel, rfl, by decide +kernel, by decide +kernel⟩
def D9 (ws : List Sl) (r : Sl) : Prop := ∃ S T d vs k, ws = [.da (tS S), .da (tS T), dI (d : Nat), .da (tS vs), dI (k : Nat)] ∧ Pil S ∧ Pil T ∧ r = .da (whyD (barrier S T d vs k))
theorem ok9 (T : Tx K mg) : FnOk P w K mg base CX0 2 T.f9.a T.f9.d ["stack", "target", "depth", "values", "reach"] (spG K (pu D9)) := by
  refine fn_go T.f9.F sc9 (fun ws μ k h => by obtain ⟨_, _, ⟨_, _, _, _, _, rfl, _⟩, _⟩ := h; rfl) (fun cdv A outer s H E hr => ⟨_, (pss_cons (ps_set (i := 5) sc9.nd rfl (.inl rfl) (pe_call (ok1 T) (hr.mono (by decide)) (by rfl) T.f1.g T.f1.F.kp T.f1.b .nil pass0 (pa_cons (pv 0) (pa_cons (pv 1) pa_nil))))
      (pss_cons (ps_if (pt_cmpR op_lt (pv 5) (pv 2) (nomark _)) (pss_one (ps_ret (pe_tupF (pa_cons pe_str (pa_cons (pv 5) pa_nil))))) pss_nil)
      (pss_cons (ps_set (i := 6) sc9.nd rfl (.inl rfl) (pe_call (ok8 T) (hr.mono (by decide)) (by rfl) T.f8.g T.f8.F.kp T.f8.b .nil pass0 (pa_cons (pe_slice (r := rSlF K) sl_tupF (pv 0) (po_some (pv 2)) po_none) (pa_cons (pv 3) pa_nil))))
      (pss_cons (ps_if (pt_cmpR op_notN (pv 6) pe_non (nomark _)) (pss_one (ps_ret (pe_tupF (pa_cons pe_str (pa_cons (pv 6) pa_nil))))) pss_nil)
      (pss_cons (ps_if (PW.pt (pw_and (pt_cmpR op_gt (pe_callB (r := Evl.rLenS K) call_lenS (by rfl) T.z_len (by decide +kernel) (pa_cons (pv 3) pa_nil)) (pv 4) (nomark _)) (pw_and1 (pt_cmpR (r := rIn K true) op_notIn_seq (pe_ix (r := rIx K) ix_seq (pv 0) (pv 2) (fun _ _ => rfl)) (pv 3) (by rfl))))) (pss_one (ps_ret (pe_tupF (pa_cons pe_str (pa_cons (pe_slice (r := rSlF K) sl_tupF (pv 3) po_none (po_some (pe_op op_add (pv 4) pe_int))) pa_nil))))) pss_nil)
      (pss_one (ps_ret pe_non))))))), fun g ws μ k eg h => ?_⟩)
  refine pu_go eg h fun r hd eg => ?_
  obtain ⟨S, U, d, vs, k, rfl, pS, pU, rfl⟩ := hd
  have hS := pS.len
  walk_at "cx"
  walk_at "go"
  refine ⟨_, ⟨S, U, rfl, by omega, rfl⟩, ?_⟩
  walk_at "go"
  unfold barrier
  refine ⟨fun h1 => ?_, fun h1 => ?_⟩
  · have h1' : cp S U < d := by simpa using h1
    walk_at "go"
    show _ = _
    rw [if_pos h1']; rfl
  have h1' : ¬ cp S U < d := by simpa using h1
  walk_at "go"
  refine os_from rfl ?_
  walk_at "go"
  refine ⟨_, ⟨S.drop d, vs, rfl, rfl⟩, ?_⟩
  rw [if_neg h1']
  cases hf : firstMissing (S.drop d) vs with
  | some v =>
    walk_at "go"
    refine ⟨fun h2 => ?_, fun h2 => by simp [nonD, optS] at h2⟩
    walk_at "go"
    show _ = _
    rfl
  | none =>
    walk_at "go"
    refine ⟨fun h2 => by simp [nonD, optS] at h2, fun h2 => ?_⟩
    have hall := firstMissing_none.mp hf
    refine go_next (go_seq (go_if (eb_andP ?_)))
    walk_at "go"
    refine ⟨decide (∃ x, S[d]? = some x ∧ x ∉ vs), fun h3 => ?_, ?_⟩
    · have h3' : k < vs.length := by simpa using h3
      have hd : d < S.length := by
        cases vs with
        | nil => simp at h3'
        | cons v r =>
          have := List.length_pos_of_mem (hall v List.mem_cons_self)
          rw [List.length_drop] at this
          omega
      walk_at "go"
      refine o_ixS rfl (List.getElem?_eq_getElem hd) ?_
      walk_at "go"
      refine ⟨?_, rfl⟩
      rw [if_pos rfl]
      rw [Bool.eq_iff_iff]
      simp [List.getElem?_eq_getElem hd]
    refine ⟨fun h4 => ?_, fun h4 => ?_⟩
    · have h4' : k < vs.length ∧ ∃ x, S[d]? = some x ∧ x ∉ vs := by simpa using h4
      walk_at "go"
      refine os_to (n := k + 1) (by omega) ?_
      walk_at "go"
      show _ = _
      unfold barrier2
      rw [if_pos h4']; rfl
    · have h4' : ¬ (k < vs.length ∧ ∃ x, S[d]? = some x ∧ x ∉ vs) := by
        intro z
        have z1 : (k : Int) < vs.length := by omega
        simp only [decide_eq_true z1, decide_eq_true z.2, Bool.and_self] at h4
        cases h4
      walk_at "go"
      show _ = _
      unfold barrier2
      rw [if_neg h4']; rfl
/-! ### reaches -/
theorem sc10 : FnScope ["stack", "target", "reach", "depth", "ground", "values"] ["stack", "target", "reach"] (defScope (topS 10)) := ⟨rfl, rfl, rfl, by decide +kernel, rfl, by decide +kernel, by decide +kernel⟩
def barr (S T : List Str) (k : Nat) : Option (Why Str) := barrier S T (depth ltS T k) (vals ltS T k) k
def D10 (ws : List Sl) (r : Sl) : Prop := ∃ S T k, ws = [.da (tS S), .da (tS T), dI (k : Nat)] ∧ Pil S ∧ Pil T ∧ r = dB (barr S T k).isNone
theorem whyD_non (o : Option (Why Str)) : nonD (whyD o) = o.isNone := by cases o <;> rfl
theorem ok10 (T : Tx K mg) : FnOk P w K mg base CX0 3 T.f10.a T.f10.d ["stack", "target", "reach"] (spG K (pu D10)) := by
  refine fn_go T.f10.F sc10 (fun ws μ k h => by obtain ⟨_, _, ⟨_, _, _, rfl, _⟩, _⟩ := h; rfl) (fun cdv A outer s H E hr => ⟨_, (pss_cons (ps_asg (pe_callN (ok6 T) (hr.mono (by decide)) (by rfl) T.f6.g T.f6.F.kp T.f6.k pass0 (pa_cons (pv 1) pa_nil) (pk_cons (pv 2) pk_nil)) (pg_tup rfl (pgs_cons (pg_name (i := 3) sc10.nd rfl (.inl rfl)) (pgs_cons (pg_name (i := 4) sc10.nd rfl (.inl rfl)) (pgs_cons (pg_name (i := 5) sc10.nd rfl (.inl rfl)) pgs_nil)))))
      (pss_one (ps_ret (pe_cmpR op_isN (pe_call (ok9 T) (hr.mono (by decide)) (by rfl) T.f9.g T.f9.F.kp T.f9.b .nil pass0 (pa_cons (pv 0) (pa_cons (pv 1) (pa_cons (pv 3) (pa_cons (pv 5) (pa_cons (pv 2) pa_nil)))))) pe_non (nomark _))))), fun g ws μ k eg h => ?_⟩)
  refine pu_go eg h fun r hd eg => ?_
  obtain ⟨S, U, k, rfl, pS, pU, rfl⟩ := hd
  walk_at "cx"
  refine go_seq (go_unpack (is := [3, 4, 5]) rfl ?_)
  walk_at "go"
  refine ⟨rfl, rfl, _, ⟨U, k, rfl, pU, rfl⟩, ?_⟩
  refine ⟨_, rfl, rfl, ?_⟩
  walk_at "go"
  refine ⟨_, ⟨S, U, _, _, k, rfl, pS, pU, rfl⟩, ?_⟩
  walk_at "go"
  show dB _ = dB _
  rw [whyD_non]; rfl
/-! ### decide -/
theorem sc11 : FnScope ["stack", "target", "reach", "reason", "witnesses", "depth", "ground", "values"] ["stack", "target", "reach"] (defScope (topS 11)) := ⟨rfl, rfl, rfl, by decide +kernel, rfl, by decide +kernel, by decide +kernel⟩
def toldD (S T : List Str) (k : Nat) : List PyData := match barr S T k with
  | none => [.str "reached", .int (depth ltS T k)]
  | some w => [.str "blocked", .tuple ([.int (depth ltS T k), tS (if 0 < depth ltS T k then (vals ltS T k).take (k + 1) else [])] ++ whyT w)]
def D11 (ws : List Sl) (r : Sl) : Prop := ∃ S T k, ws = [.da (tS S), .da (tS T), dI (k : Nat)] ∧ Pil S ∧ Pil T ∧ r = dT (toldD S T k)
theorem ok11 (T : Tx K mg) : FnOk P w K mg base CX0 3 T.f11.a T.f11.d ["stack", "target", "reach"] (spG K (pu D11)) := by
  refine fn_go T.f11.F sc11 (fun ws μ k h => by obtain ⟨_, _, ⟨_, _, _, rfl, _⟩, _⟩ := h; rfl) (fun cdv A outer s H E hr => ⟨_, (pss_cons (ps_asg (pe_callN (ok6 T) (hr.mono (by decide)) (by rfl) T.f6.g T.f6.F.kp T.f6.k pass0 (pa_cons (pv 1) pa_nil) (pk_cons (pv 2) pk_nil)) (pg_tup rfl (pgs_cons (pg_name (i := 5) sc11.nd rfl (.inl rfl)) (pgs_cons (pg_name (i := 6) sc11.nd rfl (.inl rfl)) (pgs_cons (pg_name (i := 7) sc11.nd rfl (.inl rfl)) pgs_nil)))))
      (pss_cons (ps_set (i := 3) sc11.nd rfl (.inl rfl) (pe_call (ok9 T) (hr.mono (by decide)) (by rfl) T.f9.g T.f9.F.kp T.f9.b .nil pass0 (pa_cons (pv 0) (pa_cons (pv 1) (pa_cons (pv 5) (pa_cons (pv 7) (pa_cons (pv 2) pa_nil)))))))
      (pss_cons (ps_if (pt_cmpR op_isN (pv 3) pe_non (nomark _)) (pss_one (ps_ret (pe_tupF (pa_cons pe_str (pa_cons (pv 5) pa_nil))))) pss_nil)
      (pss_cons (ps_set (i := 4) sc11.nd rfl (.inl rfl) (pe_ifExp (pt_cmpR op_gt (pv 5) pe_int (nomark _)) (pe_slice (r := rSlF K) sl_tupF (pv 7) po_none (po_some (pe_op op_add (pv 2) pe_int))) (pe_tupF pa_nil)))
      (pss_one (ps_ret (pe_tupF (pa_cons pe_str (pa_cons (pe_tupF (pa_cons (pv 5) (pa_cons (pv 4) (StX.pa_star (pv 3) pa_nil)))) pa_nil))))))))), fun g ws μ k eg h => ?_⟩)
  refine pu_go eg h fun r hd eg => ?_
  obtain ⟨S, U, k, rfl, pS, pU, rfl⟩ := hd
  walk_at "cx"
  refine go_seq (go_unpack (is := [5, 6, 7]) rfl ?_)
  walk_at "go"
  refine ⟨rfl, rfl, _, ⟨U, k, rfl, pU, rfl⟩, ?_⟩
  refine ⟨_, rfl, rfl, ?_⟩
  walk_at "go"
  refine ⟨_, ⟨S, U, _, _, k, rfl, pS, pU, rfl⟩, ?_⟩
  have eb : barrier S U (depth ltS U k) (vals ltS U k) k = barr S U k := rfl
  rw [eb]
  walk_at "go"
  unfold toldD
  cases hb : barr S U k with
  | none =>
    refine ⟨fun h => ?_, fun h => by simp [whyD, nonD] at h⟩
    walk_at "go"
    rfl
  | some y =>
    refine ⟨fun h => by simp [whyD, nonD] at h, fun h => ?_⟩
    walk_at "go"
    refine ⟨fun h2 => ?_, fun h2 => ?_⟩
    · have h2' : 0 < depth ltS U k := by simpa using h2
      walk_at "go"
      refine os_to (n := k + 1) (by omega) ?_
      walk_at "go"
      refine ea_star (ev_da rfl ⟨whyT y, rfl, ?_⟩)
      cases y <;> (walk_at "go"; show _ = _; rw [if_pos h2']; rfl)
    · have h2' : ¬ 0 < depth ltS U k := by simpa using h2
      walk_at "go"
      refine ea_star (ev_da rfl ⟨whyT y, rfl, ?_⟩)
      cases y <;> (walk_at "go"; show _ = _; rw [if_neg h2']; rfl)
end
end De
end
section
set_option Elab.async false
set_option linter.all false
set_option maxRecDepth 100000
set_option maxHeartbeats 2000000
/-! Defs that raise an own error with one field. -/
namespace De
open PySem L2 PySem.Spec PyProof.Rows RZ
section
variable {P : Program} {w : World} {K : PySem.W.Frag} {mg : Str → Option Value} {base : Heap}
/-- __init__(self, x): self.f = x -/
def spI (C : Addr) (f : Str) : Sp := fun vs H Q _ => ∃ a v, vs = [.ref a, v] ∧ H a = some (exo a C none) ∧ ∀ d, H d = none → d ≠ a → Q .non (upd (upd H d (exd d [(f, v)])) a (exo a C (some d)))
/-- the facts of such a class -/
structure Xc (K : PySem.W.Frag) (mg : Str → Option Value) (x q f y : Str) (st : Stmt) where
  C : Addr
  a : Addr
  d : FuncData
  F : Fun K "__init__" q st a d
  b : Binds K d ["self", y] []
  ox : OexC K C
  nf : PySem.W.findIn K (.ref C) f = some none
  ic : PySem.W.findIn K (.ref C) "__init__" = some (some (.ref a))
  ti : PySem.W.typeIn K (.ref a) = some (.type "function")
  g : mg x = some (.ref C)
  te : PySem.W.exmOne K (.ref C) (.ref C) = some true
theorem mkO_of {σ : L2.St} {H : Hp} {C : Addr} {f : Str} {ta : TA} {Q : XK} (h : ta σ H fun vs H1 => ∃ v, vs = [v] ∧ ∀ d, H1 d = none → Q (.ref C) (some d) (upd H1 d (.xd [(f, v)])))
    (mono : ∀ {Q Q' : List V → Hp → Prop}, (∀ vs H, Q vs H → Q' vs H) → ta σ H Q → ta σ H Q') : tMkO C (spI C f) [] ta σ H Q := by
  refine mono (fun vs H1 ⟨v, e, hq⟩ => ?_) h
  subst e
  refine ⟨by show 1 ≤ 1000; decide, fun a ha => ⟨a, v, rfl, upd_same, fun d hd hne => ⟨rfl, d, [(f, v)], upd_same, ?_, ?_, ?_⟩⟩⟩
  · rw [upd_ne hne, upd_same]
  · rw [upd_ne hne] at hd; exact hd
  · have hd' : H1 d = none := by rw [upd_ne hne] at hd; exact hd
    have e : (upd (del (upd (upd (upd H1 a (exo a C none)) d (exd d [(f, v)])) a (exo a C (some d))) a) d (.xd [(f, v)])) = upd H1 d (.xd [(f, v)]) := by
      funext b
      by_cases hb : b = d
      · subst hb; rw [upd_same, upd_same]
      · rw [upd_ne hb, upd_ne hb]
        by_cases hba : b = a
        · subst hba; rw [L2.del_same, ha]
        · rw [L2.del_ne hba, upd_ne hba, upd_ne hb, upd_ne hba]
    rw [e]
    exact hq d hd'
/-- a pure def that answers or raises C with one field f -/
abbrev Out := Sl ⊕ Sl
def spX (K : PySem.W.Frag) (C : Addr) (f : Str) (D : List Sl → Out → Prop) : Sp := fun vs H Q E => ∃ B ws, Same B H ∧ RlAll K B vs ws ∧ ∃ o, D ws o ∧
  (∀ r, o = .inl r → ∀ v B' H', Frm B H B' H' [] [] → Rl K B' v r → Q v H') ∧
  (∀ r, o = .inr r → ∀ d v B' H', Frm B H B' H' [] [] → Rl K B' v r → B' d = some (.xd [(f, v)]) → E (.ref C) (some d) H')
def Lets (K : PySem.W.Frag) (g : Gr) (E : XK) (C : Addr) (f : Str) (r : Sl) : Prop := ∀ δ μ σ H B d v, Cta K g δ μ σ H B → Rl K B v r → B d = some (.xd [(f, v)]) → E (.ref C) (some d) H
theorem Cta.frm {g : Gr} {δ : List Sl} {μ : Mus} {σ : L2.St} {H B : Hp} (c : Cta K g δ μ σ H B) (eg : g.ms = []) : Frm g.B0 g.H0 B H [] [] :=
  ⟨c.b0, c.bh, c.bf, fun b o e _ => c.kp b o e (by rw [eg]; exact fun z => nomatch z), c.th, [], rfl, fun _ z => nomatch z⟩
/-- what ends a body -/
def outAE (o : Out) : AE := { nx := fun _ _ => o = .inl dN, rt := fun w _ => o = .inl w }
theorem fn_goX {x qual : Str} {st : Stmt} {f : Addr} {fd : FuncData} {N ps : List Str} {n : Nat} {C : Addr} {fn : Str} {D : List Sl → Out → Prop} (F : Fun K x qual st f fd) (Sc : FnScope N ps (defScope st)) (len : ∀ ws o, D ws o → ws.length = ps.length)
    (hbody : ∀ (cdv : Value) (A : Around) (outer : List Env) (s : Shared) (H : Hp) (E : XK), Room n (A.deeper (envOfC qual (defScope st) s.heap.objs.size f cdv)) →
      ∃ t, PSs (cxOf (L2.CX P w) P w K mg base N qual (defScope st) f cdv A outer s H E) (defBody st) t ∧ ∀ g ws o, g.ms = [] → D ws o → (∀ r, o = .inr r → Lets K g E C fn r) → Go K g (slots0 N ws) [] t (outAE o)) : FnOk P w K mg base (L2.CX P w) (n + 1) f fd ps (spX K C fn D) := by
  refine F.okX Sc (fun vs H Q E h => ?_) (fun cdv A outer s H vs Q E hr h => ?_)
  · obtain ⟨B, ws, _, r, o, hD, _⟩ := h
    rw [r.len]; exact len _ _ hD
  · obtain ⟨B, ws, hs, r, o, hD, hq, he⟩ := h
    obtain ⟨t, ht, hg⟩ := hbody cdv A outer s H E hr
    refine ⟨t, ht, ?_⟩
    have hl : ws.length ≤ N.length := by
      rw [len _ _ hD]
      have := congrArg List.length Sc.pre
      rw [List.length_take] at this
      omega
    have c := cta_start (g := ⟨H, B, []⟩) (μ := []) (N := N) rfl rfl rfl hs r (fun _ z => nomatch z) List.nodup_nil hl
    refine hg ⟨H, B, []⟩ ws o rfl hD (fun r hr δ μ σ H1 B1 d v c1 rv hd => he r hr d v B1 H1 (c1.frm rfl) rv hd) _ H B c _ ⟨fun δ' μ' σ' H' B' h c' _ => hq _ h _ _ _ (c'.frm rfl) Dp.non, fun w' μ' δ' σ' v H' B' h c' _ r' => hq _ h _ _ _ (c'.frm rfl) r', fun _ _ _ _ _ h => h.elim, fun _ _ _ _ _ h => h.elim⟩
section
variable {g : Gr} {δ : List Sl} {μ : Mus} {k : Sl → Mus → Prop} {F : AE} {tas tk : TA} {E : XK} {C : Addr} {f : Str} {D : List Sl → Out → Prop}
theorem callX_run {σ : L2.St} {H B : Hp} {vs : List V} {ws : List Sl} {Q : VK} (c : Cta K g δ μ σ H B) (r : RlAll K B vs ws) {o : Out} (hD : D ws o) (hk : ∀ r, o = .inl r → k r μ) (hx : ∀ r, o = .inr r → Lets K g E C f r) (hq : Cont K g δ σ B k Q) : spX K C f D vs H Q E := by
  refine ⟨B, ws, c.bh, r, o, hD, fun r' e v B' H' fr rv => ?_, fun r' e d v B' H' fr rv hd => ?_⟩
  · obtain ⟨c2, _⟩ := c.called (js := []) (μf := []) (μf' := []) rfl List.nodup_nil fr (fun _ z => nomatch z) List.nodup_nil
    have : put μ [] [] = μ := List.append_nil μ
    rw [this] at c2
    exact hq _ _ _ _ _ (hk r' e) c2 fr.bb rv
  · obtain ⟨c2, _⟩ := c.called (js := []) (μf := []) (μf' := []) rfl List.nodup_nil fr (fun _ z => nomatch z) List.nodup_nil
    exact hx r' e _ _ _ _ _ _ _ c2 rv hd
/-- a call of a def that may raise; what is raised goes on out of ours -/
theorem ev_callX (h : EvA K g δ μ tas fun ws μ1 => ∃ o, D ws o ∧ (∀ r, o = .inl r → k r μ1) ∧ ∀ r, o = .inr r → Lets K g E C f r) : Ev K g δ μ (tCall (spX K C f D) [] E tas) k := fun σ H B c Q hq =>
  h σ H B c _ fun ws μ1 vs H1 B1 ⟨o, hD, hk, hx⟩ c1 s1 r1 => by
    show spX K C f D (vs ++ []) H1 Q E
    rw [List.append_nil]
    exact callX_run c1 r1 hD hk hx (hq.mono s1)
/-- raise C(e) -/
theorem go_raise {te : TE} (h : Ev K g δ μ te fun w _ => Lets K g E C f w) (mono : ∀ {σ : L2.St} {H : Hp} {Q Q' : VK}, (∀ v H, Q v H → Q' v H) → te σ H Q → te σ H Q') :
    Go K g δ μ (fun _ σ H => tMkO C (spI C f) [] (tCons te tNil) σ H fun cls d H' => (fun cls d (_ : L2.St) H => E cls d H) cls d σ H') F := fun σ H B c D fi => by
  refine mkO_of (f := f) ?_ (fun {Q Q'} hm hq => mono (fun v H hv => hm _ _ hv) hq)
  refine h σ H B c _ fun w μ1 v H1 B1 h1 c1 s1 r1 => ⟨v, rfl, fun d hd => ?_⟩
  obtain ⟨c2, s2⟩ := c1.new (o := .xd [(f, v)]) hd
  exact h1 _ _ _ _ _ d v c2 (rl_same s2 r1) upd_same
end
/-- __init__ of such a class -/
theorem ok_xinit {x q f y : Str} {st : Stmt} (X : Xc K mg x q f y st) (Sc : FnScope ["self", y] ["self", y] (defScope st))
    (hb : ∀ (cdv : Value) (A : Around) (outer : List Env) (s : Shared) (H : Hp) (E : XK), PSs (cxOf CX0 P w K mg base ["self", y] q (defScope st) X.a cdv A outer s H E).nox (defBody st) (tOst K f (tVar 0) (tVar 1))) : FnOk P w K mg base CX0 1 X.a X.d ["self", y] (spI X.C f) := by
  refine X.F.ok Sc (fun vs H Q E h => ?_) (fun cdv A outer s H vs Q E hr h => ?_)
  · obtain ⟨a, v, rfl, _⟩ := h; rfl
  · obtain ⟨a, v, rfl, ha, hq⟩ := h
    refine ⟨_, hb cdv A outer s H E, v, rfl, .ref a, rfl, a, X.C, rfl, X.ox, X.nf, .inl ⟨ha, fun dx hd hne => hq dx hd hne⟩⟩
end
end De
namespace De
open PySem L2 PySem.Spec PyProof.Rows
/-- all facts: with the two errors -/
structure Ty (K : PySem.W.Frag) (mg : Str → Option Value) extends Tx K mg where
  x14 : Xc K mg "InvalidCertificate" "InvalidCertificate.__init__" "reason" "reason" (inClass (topS 14) 0)
  x16 : Xc K mg "Blocked" "Blocked.__init__" "certificate" "certificate" (inClass (topS 16) 0)
  xf16 : XfC K x16.C
  k50 : KBn K toTx.f50.d ["stack", "target", "reach", "floor"] 2 ["reach"] (fun us ws => us ++ ws ++ [.none]) (fun vs zs => vs ++ zs ++ [.non])
section
variable {K : PySem.W.Frag} {g : Gr} {δ : List Sl} {μ : Mus} {k : Sl → Mus → Prop}
theorem oc_isiT {ds : List PyData} (q : k (dB true) μ) : OpC K g δ (rIsi K) [dT ds, .va (.ty "tuple")] μ k := oc_isi (show kitB "tuple" "tuple" = some true by decide +kernel) q
theorem oc_isiTL {ds : List PyData} (q : k (dB false) μ) : OpC K g δ (rIsi K) [dT ds, .va (.ty "list")] μ k := oc_isi (show kitB "tuple" "list" = some false by decide +kernel) q
theorem oc_isiI {i : Int} (q : k (dB true) μ) : OpC K g δ (rIsi K) [dI i, .va (.ty "int")] μ k := oc_isi (show kitB "int" "int" = some true by decide +kernel) q
theorem oc_isiIB {i : Int} (q : k (dB false) μ) : OpC K g δ (rIsi K) [dI i, .va (.ty "bool")] μ k := oc_isi (show kitB "int" "bool" = some false by decide +kernel) q
theorem oc_isiS {s : Str} (q : k (dB true) μ) : OpC K g δ (rIsi K) [dS s, .va (.ty "str")] μ k := oc_isi (show kitB "str" "str" = some true by decide +kernel) q
theorem ev_compZ {ta : TA} {te : TE} {i j : Nat} {vs : List Nat} (hi : i ∈ vs) (hj : j ∈ vs) (h : EvA K g δ μ ta fun ws μ1 => ∃ ds es, ws = [dT ds, dT es] ∧ ∃ f : PyData → PyData → PyData, ds.length < 90000 ∧ (∀ x, x ∈ g.ms → x ∈ μ1.map (·.1)) ∧ (∀ d e, d ∈ ds → e ∈ es → PureE K g (((wipeS δ vs).set i (.da d)).set j (.da e)) tYes te μ1 true (f d e)) ∧ k (dL ((ds.zip es).map fun p => f p.1 p.2)) μ1) :
    Ev K g δ μ (tLc (RZ.iZipA K ta) (gTup K 2 (gCons (gName i) (gCons (gName j) gNil))) tYes te vs) k :=
  ev_frz (ev_lcZ hi hj (fun σ H B c Q hq => h σ H B c Q fun ws μ1 us H1 B1 ⟨ds, es, e, f, hl, hm, hb, hk⟩ => hq ws μ1 us H1 B1 ⟨ds, es, e, fun n acc μ' => μ' = μ1 ∧ acc = (((ds.zip es).take n).map fun p => f p.1 p.2).map Sl.da, by omega, ⟨rfl, rfl⟩, fun n acc μ' hn ⟨e1, e2⟩ d e' hd he => by
      subst e1
      have hz : (ds.zip es)[n]? = some (d, e') := by rw [List.getElem?_zip_eq_some]; exact ⟨hd, he⟩
      refine elt_pure (hb d e' (List.mem_of_getElem? hd) (List.mem_of_getElem? he)) ⟨rfl, ?_⟩
      rw [if_pos rfl, List.take_add_one, hz, e2, Option.toList_some, List.map_append, List.map_append]
      rfl, fun acc μ' ⟨e1, e2⟩ q => by
      subst e1
      rw [List.take_of_length_le (by rw [List.length_zip]; exact Nat.le_refl _)] at e2
      exact ⟨q, _, _, rfl, by rw [e2], hm, hk⟩⟩))
theorem o_inF {s : Str} {ss : List Str} (q : k (dB (decide (s ∈ ss))) μ) : Op2 K g δ (rIn K false) (dS s) (.da (tS ss)) μ k := o_in (by rw [if_neg Bool.false_ne_true]; exact q)
theorem o_inT {s : Str} {ss : List Str} (q : k (dB (!decide (s ∈ ss))) μ) : Op2 K g δ (rIn K true) (dS s) (.da (tS ss)) μ k := o_in (by rw [if_pos rfl]; exact q)
theorem o_inLF {s : Str} {ss : List Str} (q : k (dB (decide (s ∈ ss))) μ) : Op2 K g δ (rIn K false) (dS s) (.da (lS ss)) μ k := o_inL (by rw [if_neg Bool.false_ne_true]; exact q)
theorem o_inLT {s : Str} {ss : List Str} (q : k (dB (!decide (s ∈ ss))) μ) : Op2 K g δ (rIn K true) (dS s) (.da (lS ss)) μ k := o_inL (by rw [if_pos rfl]; exact q)
end
end De
namespace De
open PySem L2 PySem.Spec PyProof.Rows
section
variable {P : Program} {w : World} {K : PySem.W.Frag} {mg : Str → Option Value} {base : Heap}
/-- as spX; the outcome is one of several -/
def spY (K : PySem.W.Frag) (C : Addr) (f : Str) (R : List Sl → (Out → Prop) → Prop) : Sp := fun vs H Q E => ∃ B ws, Same B H ∧ RlAll K B vs ws ∧ ∃ Po, R ws Po ∧
  (∀ r, Po (.inl r) → ∀ v B' H', Frm B H B' H' [] [] → Rl K B' v r → Q v H') ∧
  (∀ r, Po (.inr r) → ∀ d v B' H', Frm B H B' H' [] [] → Rl K B' v r → B' d = some (.xd [(f, v)]) → E (.ref C) (some d) H')
theorem fn_goY {x qual : Str} {st : Stmt} {f : Addr} {fd : FuncData} {N ps : List Str} {n : Nat} {C : Addr} {fn : Str} {R : List Sl → (Out → Prop) → Prop} (F : Fun K x qual st f fd) (Sc : FnScope N ps (defScope st)) (len : ∀ ws Po, R ws Po → ws.length = ps.length)
    (hbody : ∀ (cdv : Value) (A : Around) (outer : List Env) (s : Shared) (H : Hp) (E : XK), Room n (A.deeper (envOfC qual (defScope st) s.heap.objs.size f cdv)) →
      ∃ t, PSs (cxOf (L2.CX P w) P w K mg base N qual (defScope st) f cdv A outer s H E) (defBody st) t ∧ ∀ g ws Po, g.ms = [] → R ws Po → (∀ r, Po (.inr r) → Lets K g E C fn r) → Go K g (slots0 N ws) [] t { nx := fun _ _ => Po (.inl dN), rt := fun w _ => Po (.inl w) }) : FnOk P w K mg base (L2.CX P w) (n + 1) f fd ps (spY K C fn R) := by
  refine F.okX Sc (fun vs H Q E h => ?_) (fun cdv A outer s H vs Q E hr h => ?_)
  · obtain ⟨B, ws, _, r, o, hD, _⟩ := h
    rw [r.len]; exact len _ _ hD
  · obtain ⟨B, ws, hs, r, Po, hD, hq, he⟩ := h
    obtain ⟨t, ht, hg⟩ := hbody cdv A outer s H E hr
    refine ⟨t, ht, ?_⟩
    have hl : ws.length ≤ N.length := by
      rw [len _ _ hD]
      have := congrArg List.length Sc.pre
      rw [List.length_take] at this
      omega
    have c := cta_start (g := ⟨H, B, []⟩) (μ := []) (N := N) rfl rfl rfl hs r (fun _ z => nomatch z) List.nodup_nil hl
    refine hg ⟨H, B, []⟩ ws Po rfl hD (fun r hr δ μ σ H1 B1 d v c1 rv hd => he r hr d v B1 H1 (c1.frm rfl) rv hd) _ H B c _ ⟨fun δ' μ' σ' H' B' h c' _ => hq _ h _ _ _ (c'.frm rfl) Dp.non, fun w' μ' δ' σ' v H' B' h c' _ r' => hq _ h _ _ _ (c'.frm rfl) r', fun _ _ _ _ _ h => h.elim, fun _ _ _ _ _ h => h.elim⟩
end
end De
end
section
set_option Elab.async false
set_option linter.all false
set_option maxRecDepth 100000
set_option maxHeartbeats 2000000
/-! values.py, blocked.py -/
namespace De
open PySem L2 PySem.Spec PyProof.Rows RZ
local macro_rules | `(tactic| walk_at "de") => `(tactic| first
  | with_reducible refine go_seq ?_
  | with_reducible refine go_set ?_
  | with_reducible refine go_ret ?_
  | with_reducible refine go_if ?_
  | with_reducible refine go_next ?_
  | with_reducible refine go_drop ?_
  | ((with_reducible apply ev_da); exact rfl)
  | ((with_reducible apply ev_va); exact rfl)
  | with_reducible refine ev_c ?_
  | with_reducible refine ev_op ?_
  | with_reducible refine ev_un ?_
  | with_reducible refine ea_nil ?_
  | with_reducible refine ea_cons ?_
  | with_reducible refine ev_sortset ?_
  | with_reducible refine ev_cb ?_
  | with_reducible refine eb_test ?_
  | with_reducible refine eb_B ?_
  | with_reducible refine eb_and ?_
  | with_reducible refine eb_or ?_
  | with_reducible refine eb_not ?_
  | with_reducible refine ev_andV ?_
  | with_reducible refine ev_orV ?_
  | with_reducible refine ev_notV ?_
  | with_reducible refine ev_if ?_
  | with_reducible refine ev_sl ?_
  | with_reducible refine eo_no ?_
  | with_reducible refine eo_some ?_
  | with_reducible refine ev_tup' ?_
  | with_reducible refine ev_callX ?_
  | with_reducible refine ev_callP ?_
  | with_reducible refine ev_callNP ?_
  | with_reducible refine ev_call ?_
  | with_reducible refine ev_callN ?_
  | with_reducible refine ev_chain ?_
  | with_reducible refine o_I0 ?_
  | with_reducible refine o_eqI ?_
  | with_reducible refine o_neI ?_
  | with_reducible refine o_eqS ?_
  | with_reducible refine o_neS ?_
  | with_reducible refine o_isN ?_
  | with_reducible refine o_notN ?_
  | with_reducible refine o_ltS ?_
  | with_reducible refine o_U ?_
  | with_reducible refine oc_len_tS ?_
  | with_reducible refine oc_len_lS ?_
  | with_reducible refine oc_len_t ?_
  | with_reducible refine oc_len_l ?_
  | with_reducible refine ev_dnew ?_
  | with_reducible refine oc_isiT ?_
  | with_reducible refine oc_isiTL ?_
  | with_reducible refine oc_isiI ?_
  | with_reducible refine oc_isiIB ?_
  | with_reducible refine oc_isiS ?_
  | with_reducible refine oc_min2 ?_
  | with_reducible refine oc_max2 ?_
  | with_reducible refine oc_abs ?_
  | with_reducible refine oc_tup_lS ?_
  | with_reducible refine oc_tup_l ?_
  | with_reducible refine o_inF ?_
  | with_reducible refine o_inT ?_
  | with_reducible refine o_inLF ?_
  | with_reducible refine o_inLT ?_
  | with_reducible refine eb_yes ?_
  | (refine Exists.intro _ (And.intro (show dats _ = some _ from rfl) (And.intro (show Nat.ble _ 60 = true from rfl) ?_)))
  | with_reducible refine Exists.intro _ (And.intro rfl ?_))
local macro_rules | `(tactic| walk_at "cx") => `(tactic| try simp only [cx_K, cx_K'])
local macro_rules | `(tactic| walk_at "go") => `(tactic| repeat walk_at "de")

section
variable {P : Program} {w : World} {K : PySem.W.Frag} {mg : Str → Option Value} {base : Heap}
/-! ### is_between -/
theorem sc20 : FnScope ["thing", "least", "most"] ["thing", "least", "most"] (defScope (topS 20)) := ⟨rfl, rfl, rfl, by decide +kernel, rfl, by decide +kernel, by decide +kernel⟩
def D20 (ws : List Sl) (r : Sl) : Prop := ∃ i a b : Int, ws = [dI i, dI a, dI b] ∧ r = dB (decide (a ≤ i ∧ i ≤ b))
theorem ok20 (T : Tx K mg) : FnOk P w K mg base CX0 1 T.f20.a T.f20.d ["thing", "least", "most"] (spG K (pu D20)) := by
  refine fn_go T.f20.F sc20 (fun ws μ k h => by obtain ⟨_, _, ⟨_, _, _, rfl, _⟩, _⟩ := h; rfl) (fun cdv A outer s H E hr => ⟨_, (pss_one (ps_ret (pe_and (pe_callB (r := rIsi K) call_isi (by rfl) T.z_isinstance (by decide +kernel) (pa_cons (pv 0) (pa_cons (pe_bltn (v := .ty "int") (by rfl) T.z_int (by decide +kernel) rfl) pa_nil))) (pe_and (pe_not (pe_callB (r := rIsi K) call_isi (by rfl) T.z_isinstance (by decide +kernel) (pa_cons (pv 0) (pa_cons (pe_bltn (v := .ty "bool") (by rfl) T.z_bool (by decide +kernel) rfl) pa_nil)))) (pe_one (pe_chain op_le op_le (pv 1) (pv 0) (pv 2))))))), fun g ws μ k eg h => ?_⟩)
  refine pu_go eg h fun r hd eg => ?_
  obtain ⟨i, a, b, rfl, rfl⟩ := hd
  walk_at "cx"
  walk_at "go"
  refine ⟨fun _ => ?_, fun h => by cases h⟩
  walk_at "go"
  refine ⟨fun _ => ?_, fun h => by cases h⟩
  walk_at "go"
  refine ⟨fun h => ?_, fun h => ?_⟩
  · show dB _ = dB _
    have := of_decide_eq_false h
    rw [decide_eq_false (fun z => this z.1)]
  · have := of_decide_eq_true h
    walk_at "go"
    refine congrArg dB (decide_eq_decide.mpr ⟨fun z => ⟨this, z⟩, fun z => z.2⟩)
/-! ### are_values_of -/
theorem sc23 : FnScope ["thing", "cells", "count", "value", "one", "other"] ["thing", "cells", "count"] (defScope (topS 23)) := ⟨rfl, rfl, rfl, by decide +kernel, rfl, by decide +kernel, by decide +kernel⟩
def D23 (ws : List Sl) (r : Sl) : Prop := ∃ vs cells n, ws = [.da (tS vs), .da (tS cells), dI (n : Nat)] ∧ vs.length < 1000 ∧ r = dB (valuesOf ltS vs cells n)
theorem asc_zip : ∀ l : List Str, (((l.map PyData.str).zip ((l.drop 1).map PyData.str)).map fun p => PyData.bool (ltS (strD p.1) (strD p.2))) = (((l.zip (l.drop 1)).map fun p => ltS p.1 p.2)).map PyData.bool ∧ ((l.zip (l.drop 1)).map fun p => ltS p.1 p.2).all id = ascB ltS l
  | [] => ⟨rfl, rfl⟩
  | [x] => ⟨rfl, rfl⟩
  | x :: y :: r => by
    obtain ⟨h1, h2⟩ := asc_zip (y :: r)
    constructor
    · have := congrArg (fun l => PyData.bool (ltS x y) :: l) h1
      exact this
    · show (ltS x y && ((((y :: r).zip ((y :: r).drop 1)).map fun p => ltS p.1 p.2).all id)) = (ltS x y && ascB ltS (y :: r))
      rw [h2]
theorem ok23 (T : Tx K mg) : FnOk P w K mg base CX0 1 T.f23.a T.f23.d ["thing", "cells", "count"] (spG K (pu D23)) := by
  refine fn_go T.f23.F sc23 (fun ws μ k h => by obtain ⟨_, _, ⟨_, _, _, rfl, _⟩, _⟩ := h; rfl) (fun cdv A outer s H E hr => ⟨_, (pss_cons (ps_if (PW.pt (pw_or (pt_not (pt_val (pe_callB (r := rIsi K) call_isi (by rfl) T.z_isinstance (by decide +kernel) (pa_cons (pv 0) (pa_cons (pe_bltn (v := .ty "tuple") (by rfl) T.z_tuple (by decide +kernel) rfl) pa_nil))))) (pw_or1 (pt_cmpR op_ne (pe_callB (r := Evl.rLenS K) call_lenS (by rfl) T.z_len (by decide +kernel) (pa_cons (pv 0) pa_nil)) (pv 2) (nomark _))))) (pss_one (ps_ret pe_bl)) pss_nil)
      (pss_cons (ps_if (pt_not (pt_val (pe_callB (r := rAll K) (cr_all rfl) (by rfl) T.z_all (by decide +kernel) (pa_cons (pe_lc (g := gName 3) (tt := tYes) (own := [("value", 3)]) rfl sc23.nd (pi_tup (pv 0)) (blkOk_by (N := ["thing", "cells", "count", "value", "one", "other"]) (sc := defScope (topS 23)) (own := [("value", 3)]) (by decide +kernel)) (fun _ _ _ _ _ => pg_name (i := 3) sc23.nd rfl (.inl rfl)) (fun _ _ _ _ _ => pts_nil) (fun _ _ _ _ _ => pe_and (pe_callB (r := rIsi K) call_isi (by rfl) T.z_isinstance (by decide +kernel) (pa_cons (pv 3) (pa_cons (pe_bltn (v := .ty "str") (by rfl) T.z_str (by decide +kernel) rfl) pa_nil))) (pe_one (pe_cmpR (r := rIn K false) op_in_seq (pv 3) (pv 1) (by rfl))))) pa_nil)))) (pss_one (ps_ret pe_bl)) pss_nil)
      (pss_one (ps_ret (pe_callB (r := rAll K) (cr_all rfl) (by rfl) T.z_all (by decide +kernel) (pa_cons (pe_lc (g := gTup K 2 (gCons (gName 4) (gCons (gName 5) gNil))) (tt := tYes) (own := [("one", 4), ("other", 5)]) rfl sc23.nd (pi_zipA (by rfl) T.z_zip (pa_cons (pv 0) (pa_cons (pe_slice (r := rSlF K) sl_tupF (pv 0) (po_some pe_int) po_none) pa_nil))) (blkOk_by (N := ["thing", "cells", "count", "value", "one", "other"]) (sc := defScope (topS 23)) (own := [("one", 4), ("other", 5)]) (by decide +kernel)) (fun _ _ _ _ _ => pg_tup rfl (pgs_cons (pg_name (i := 4) sc23.nd rfl (.inl rfl)) (pgs_cons (pg_name (i := 5) sc23.nd rfl (.inl rfl)) pgs_nil))) (fun _ _ _ _ _ => pts_nil) (fun _ _ _ _ _ => pe_cmpR op_lt_str (pv 4) (pv 5) (nomark _))) pa_nil)))))), fun g ws μ k eg h => ?_⟩)
  refine pu_go eg h fun r hd eg => ?_
  obtain ⟨vs, cells, n, rfl, hl, rfl⟩ := hd
  walk_at "cx"
  refine go_seq (go_if (eb_orP ?_))
  walk_at "go"
  refine ⟨!decide (vs.length = n), fun _ => ?_, ?_⟩
  · walk_at "go"
    exact ⟨congrArg not (decide_eq_decide.mpr (by omega)), rfl⟩
  unfold valuesOf
  refine ⟨fun h => ?_, fun h => ?_⟩
  · walk_at "go"
    show dB _ = dB _
    have : ¬ vs.length = n := by simpa using h
    rw [decide_eq_false this, Bool.false_and, Bool.false_and]
  have hn : vs.length = n := by simpa using h
  rw [decide_eq_true hn, Bool.true_and]
  walk_at "go"
  refine ev_compT (by simp) ?_
  walk_at "go"
  refine ⟨fun _ => true, fun d => .bool (decide (strD d ∈ cells)), by rw [List.length_map]; omega, by rw [eg]; simp, fun d hd => pureE_all fun μ' => ?_, ?_⟩
  · obtain ⟨s, rfl, hs⟩ := mem_str hd
    walk_at "go"
    refine ⟨fun _ => ?_, fun h => by cases h⟩
    walk_at "go"
    exact ⟨rfl, rfl⟩
  rw [outD_bool (q := fun s => decide (s ∈ cells)) fun s _ => rfl]
  walk_at "go"
  refine oc_all ?_
  walk_at "go"
  have e3 : ((vs.map fun s => decide (s ∈ cells)).all id) = (vs.all fun v => decide (v ∈ cells)) := by
    rw [List.all_map]; rfl
  rw [e3]
  refine ⟨fun h2 => ?_, fun h2 => ?_⟩
  · walk_at "go"
    show dB _ = dB _
    rw [Bool.not_eq_true'] at h2
    rw [h2, Bool.false_and]
  rw [Bool.not_eq_false'] at h2
  rw [h2, Bool.true_and]
  walk_at "go"
  refine ev_compZ (by simp) (by simp) ?_
  walk_at "go"
  refine os_from (n := 1) rfl ?_
  walk_at "go"
  refine ⟨_, _, rfl, fun a b => .bool (ltS (strD a) (strD b)), by rw [List.length_map]; omega, by rw [eg]; simp, fun d e hd he => pureE_all fun μ' => ?_, ?_⟩
  · obtain ⟨s, rfl, hs⟩ := mem_str hd
    obtain ⟨s', rfl, hs'⟩ := mem_str he
    walk_at "go"
    exact ⟨rfl, rfl⟩
  obtain ⟨z1, z2⟩ := asc_zip vs
  rw [z1]
  walk_at "go"
  refine oc_all ?_
  walk_at "go"
  show dB _ = dB _
  rw [z2]
/-! ### is_ground, is_missing, is_edge -/
theorem sc24 : FnScope ["stack", "target", "floor", "detail"] ["stack", "target", "floor", "detail"] (defScope (topS 24)) := ⟨rfl, rfl, rfl, by decide +kernel, rfl, by decide +kernel, by decide +kernel⟩
def D24 (ws : List Sl) (r : Sl) : Prop := ∃ S T f i, ws = [.da (tS S), .da (tS T), dI (f : Nat), dI (i : Nat)] ∧ Pil S ∧ Pil T ∧ r = dB (whyOk ltS S T f 0 (.ground i))
theorem ok24 (T : Tx K mg) : FnOk P w K mg base CX0 2 T.f24.a T.f24.d ["stack", "target", "floor", "detail"] (spG K (pu D24)) := by
  refine fn_go T.f24.F sc24 (fun ws μ k h => by obtain ⟨_, _, ⟨_, _, _, _, rfl, _⟩, _⟩ := h; rfl) (fun cdv A outer s H E hr => ⟨_, (pss_one (ps_ret (pe_and (pe_call (ok20 T) (hr.mono (by decide)) (by rfl) T.f20.g T.f20.F.kp T.f20.b .nil pass0 (pa_cons (pv 3) (pa_cons pe_int (pa_cons (pe_op op_sub (pv 2) pe_int) pa_nil)))) (pe_one (pe_cmpR (r := rNeD K) (op_neD hr.units) (pe_slice (r := rSlF K) sl_tupF (pv 0) (po_some (pv 3)) (po_some (pe_op op_add (pv 3) pe_int))) (pe_slice (r := rSlF K) sl_tupF (pv 1) (po_some (pv 3)) (po_some (pe_op op_add (pv 3) pe_int))) (nomark _)))))), fun g ws μ k eg h => ?_⟩)
  refine pu_go eg h fun r hd eg => ?_
  obtain ⟨S, U, f, i, rfl, pS, pU, rfl⟩ := hd
  walk_at "cx"
  walk_at "go"
  refine ⟨_, ⟨(i : Int), 0, (f : Int) - 1, rfl, rfl⟩, ?_⟩
  walk_at "go"
  have e : decide ((0 : Int) ≤ i ∧ (i : Int) ≤ (f : Int) - 1) = decide (i < f) := decide_eq_decide.mpr (by omega)
  rw [e]
  refine ⟨fun h => ?_, fun h => ?_⟩
  · walk_at "go"
    refine os_one rfl rfl ?_
    walk_at "go"
    refine os_one rfl rfl ?_
    refine o_neP ((pS.drop i).take 1) ((pU.drop i).take 1) ?_
    show dB _ = dB (decide (i < f) && !decide ((S.drop i).take 1 = (U.drop i).take 1))
    rw [h, Bool.true_and]
  · show dB _ = dB (decide (i < f) && !decide ((S.drop i).take 1 = (U.drop i).take 1))
    rw [h, Bool.false_and]
theorem sc25 : FnScope ["stack", "target", "floor", "detail"] ["stack", "target", "floor", "detail"] (defScope (topS 25)) := ⟨rfl, rfl, rfl, by decide +kernel, rfl, by decide +kernel, by decide +kernel⟩
def D25 (ws : List Sl) (r : Sl) : Prop := ∃ S T f v, ws = [.da (tS S), .da (tS T), dI (f : Nat), dS v] ∧ r = dB (whyOk ltS S T f 0 (.missing v))
theorem ok25 (T : Tx K mg) : FnOk P w K mg base CX0 1 T.f25.a T.f25.d ["stack", "target", "floor", "detail"] (spG K (pu D25)) := by
  refine fn_go T.f25.F sc25 (fun ws μ k h => by obtain ⟨_, _, ⟨_, _, _, _, rfl, _⟩, _⟩ := h; rfl) (fun cdv A outer s H E hr => ⟨_, (pss_one (ps_ret (pe_and (pe_callB (r := rIsi K) call_isi (by rfl) T.z_isinstance (by decide +kernel) (pa_cons (pv 3) (pa_cons (pe_bltn (v := .ty "str") (by rfl) T.z_str (by decide +kernel) rfl) pa_nil))) (pe_and (pe_cmpR (r := rIn K false) op_in_seq (pv 3) (pe_slice (r := rSlF K) sl_tupF (pv 1) (po_some (pv 2)) po_none) (by rfl)) (pe_one (pe_cmpR (r := rIn K true) op_notIn_seq (pv 3) (pe_slice (r := rSlF K) sl_tupF (pv 0) (po_some (pv 2)) po_none) (by rfl))))))), fun g ws μ k eg h => ?_⟩)
  refine pu_go eg h fun r hd eg => ?_
  obtain ⟨S, U, f, v, rfl, rfl⟩ := hd
  walk_at "cx"
  walk_at "go"
  refine ⟨fun _ => ?_, fun h => by cases h⟩
  walk_at "go"
  refine os_from rfl ?_
  walk_at "go"
  refine ⟨fun h => ?_, fun h => ?_⟩
  · walk_at "go"
    refine os_from rfl ?_
    walk_at "go"
    show dB _ = dB (decide (v ∈ U.drop f) && !decide (v ∈ S.drop f))
    have h' : decide (v ∈ U.drop f) = true := h
    rw [h', Bool.true_and]
  · show dB _ = dB (decide (v ∈ U.drop f) && !decide (v ∈ S.drop f))
    have h' : decide (v ∈ U.drop f) = false := h
    rw [h', Bool.false_and]
theorem sc26 : FnScope ["stack", "target", "floor", "detail", "reach", "edge"] ["stack", "target", "floor", "detail", "reach"] (defScope (topS 26)) := ⟨rfl, rfl, rfl, by decide +kernel, rfl, by decide +kernel, by decide +kernel⟩
def D26 (ws : List Sl) (r : Sl) : Prop := ∃ S T f vs k, ws = [.da (tS S), .da (tS T), dI (f : Nat), .da (tS vs), dI (k : Nat)] ∧ Pil S ∧ Pil T ∧ vs.length < 1000 ∧ r = dB (whyOk ltS S T f k (.edge vs))
theorem ok26 (T : Tx K mg) : FnOk P w K mg base CX0 2 T.f26.a T.f26.d ["stack", "target", "floor", "detail", "reach"] (spG K (pu D26)) := by
  refine fn_go T.f26.F sc26 (fun ws μ k h => by obtain ⟨_, _, ⟨_, _, _, _, _, rfl, _⟩, _⟩ := h; rfl) (fun cdv A outer s H E hr => ⟨_, (pss_cons (ps_set (i := 5) sc26.nd rfl (.inl rfl) (pe_slice (r := rSlF K) sl_tupF (pv 0) (po_some (pv 2)) (po_some (pe_op op_add (pv 2) pe_int))))
      (pss_cons (ps_if (PW.pt (pw_or (pt_cmpR (r := rEqD K) (op_eqD hr.units) (pv 5) (pe_tupF pa_nil) (nomark _)) (pw_or (pt_cmpR (r := rEqD K) (op_eqD hr.units) (pv 5) (pe_slice (r := rSlF K) sl_tupF (pv 1) (po_some (pv 2)) (po_some (pe_op op_add (pv 2) pe_int))) (nomark _)) (pw_or1 (pt_not (pt_val (pe_call (ok23 T) (hr.mono (by decide)) (by rfl) T.f23.g T.f23.F.kp T.f23.b .nil pass0 (pa_cons (pv 3) (pa_cons (pe_slice (r := rSlF K) sl_tupF (pv 1) (po_some (pv 2)) po_none) (pa_cons (pe_op op_add (pv 4) pe_int) pa_nil)))))))))) (pss_one (ps_ret pe_bl)) pss_nil)
      (pss_one (ps_ret (pe_cmpR (r := rIn K true) op_notIn_seq (pe_ix (r := rIx K) ix_seq (pv 5) pe_int (fun _ _ => rfl)) (pv 3) (by rfl)))))), fun g ws μ k eg h => ?_⟩)
  refine pu_go eg h fun r hd eg => ?_
  obtain ⟨S, U, f, vs, k, rfl, pS, pU, hv, rfl⟩ := hd
  have pn : Pil [] := ⟨fun _ h => (by cases h), by decide⟩
  walk_at "cx"
  walk_at "go"
  refine os_one rfl rfl ?_
  refine go_seq (go_if (eb_orP ?_))
  walk_at "go"
  refine o_eqP (b := []) ((pS.drop f).take 1) pn ?_
  walk_at "go"
  refine ⟨decide ((S.drop f).take 1 = (U.drop f).take 1) || !(valuesOf ltS vs (U.drop f) (k + 1)), fun _ => ?_, ?_⟩
  · refine eb_orP ?_
    walk_at "go"
    refine os_one rfl rfl ?_
    refine o_eqP ((pS.drop f).take 1) ((pU.drop f).take 1) ?_
    walk_at "go"
    refine ⟨!(valuesOf ltS vs (U.drop f) (k + 1)), fun _ => ?_, rfl, rfl⟩
    walk_at "go"
    refine os_from rfl ?_
    walk_at "go"
    refine ⟨_, ⟨vs, U.drop f, k + 1, by rw [show ((k + 1 : Nat) : Int) = (k : Int) + 1 by omega], hv, rfl⟩, ?_⟩
    walk_at "go"
    exact ⟨rfl, rfl⟩
  have e1 : (S.drop f).take 1 = (S[f]?).toList := take1_drop S f
  have e2 : (U.drop f).take 1 = (U[f]?).toList := take1_drop U f
  rw [e1, e2]
  unfold whyOk
  cases hx : S[f]? with
  | none =>
    refine ⟨fun h => ?_, fun h => by simp at h⟩
    walk_at "go"
    rfl
  | some x =>
    have e3 : decide ((some x).toList = (U[f]?).toList) = decide (U[f]? = some x) := by
      apply decide_eq_decide.mpr
      cases U[f]? with
      | none => simp
      | some y => simp; exact eq_comm
    rw [e3]
    refine ⟨fun h => ?_, fun h => ?_⟩
    · walk_at "go"
      show dB _ = dB (!decide (U[f]? = some x) && valuesOf ltS vs (U.drop f) (k + 1) && !decide (x ∈ vs))
      have h' : decide (U[f]? = some x) = true ∨ valuesOf ltS vs (U.drop f) (k + 1) = false := by
        rw [Bool.or_eq_true, Bool.or_eq_true, Bool.not_eq_true'] at h
        rcases h with h | h
        · simp at h
        · exact h
      rcases h' with h' | h'
      · rw [h']; simp
      · rw [h']; simp
    · rw [Bool.or_eq_false_iff, Bool.or_eq_false_iff, Bool.not_eq_false'] at h
      walk_at "go"
      refine o_ixS (ss := [x]) (n := 0) rfl rfl ?_
      walk_at "go"
      show dB _ = dB (!decide (U[f]? = some x) && valuesOf ltS vs (U.drop f) (k + 1) && !decide (x ∈ vs))
      rw [h.2.1, h.2.2]
      simp
/-! ### need -/
theorem sc14_0 : FnScope ["self", "reason"] ["self", "reason"] (defScope (inClass (topS 14) 0)) := ⟨rfl, rfl, rfl, by decide +kernel, rfl, by decide +kernel, by decide +kernel⟩
theorem okx14 (T : Ty K mg) : FnOk P w K mg base CX0 1 T.x14.a T.x14.d ["self", "reason"] (spI T.x14.C "reason") := ok_xinit T.x14 sc14_0 fun _ _ _ _ _ _ => pss_one (ps_ost (pv 0) (pv 1) rfl)
theorem sc16_0 : FnScope ["self", "certificate"] ["self", "certificate"] (defScope (inClass (topS 16) 0)) := ⟨rfl, rfl, rfl, by decide +kernel, rfl, by decide +kernel, by decide +kernel⟩
theorem okx16 (T : Ty K mg) : FnOk P w K mg base CX0 1 T.x16.a T.x16.d ["self", "certificate"] (spI T.x16.C "certificate") := ok_xinit T.x16 sc16_0 fun _ _ _ _ _ _ => pss_one (ps_ost (pv 0) (pv 1) rfl)
theorem sc22 : FnScope ["is_so", "reason"] ["is_so", "reason"] (defScope (topS 22)) := ⟨rfl, rfl, rfl, by decide +kernel, rfl, by decide +kernel, by decide +kernel⟩
def D22 (ws : List Sl) (o : Out) : Prop := ∃ b s, ws = [dB b, dS s] ∧ o = if b then .inl dN else .inr .no
theorem mono_var {i : Nat} {σ : L2.St} {H : Hp} {Q Q' : VK} (h : ∀ v H, Q v H → Q' v H) (q : tVar i σ H Q) : tVar i σ H Q' := by
  obtain ⟨v, e, q⟩ := q
  exact ⟨v, e, h _ _ q⟩
theorem ok22 (T : Ty K mg) : FnOk P w K mg base (L2.CX P w) 3 T.f22.a T.f22.d ["is_so", "reason"] (spX K T.x14.C "reason" D22) := by
  refine fn_goX T.f22.F sc22 (fun ws o h => by obtain ⟨_, _, rfl, _⟩ := h; rfl) (fun cdv A outer s H E hr => ⟨_, (pss_one (ps_if (pt_not (pt_val (pv 0))) (pss_one (ps_raise rfl (takes_of rfl rfl rfl rfl) (pmk_oex (C := T.x14.C) T.x14.ox T.x14.ic T.x14.ti (okx14 T) (hr.mono (by decide)) T.x14.b .nil pass0 (by rfl) T.x14.g (pa_cons (pv 1) pa_nil)))) pss_nil)), fun g ws o eg hd he => ?_⟩)
  obtain ⟨b, s, rfl, rfl⟩ := hd
  walk_at "cx"
  walk_at "go"
  cases b with
  | true =>
    refine ⟨fun h => (by cases h), fun _ => ?_⟩
    walk_at "go"
    rfl
  | false =>
    refine ⟨fun _ => ?_, fun h => by cases h⟩
    refine go_raise (f := "reason") (ev_da rfl fun δ μ σ H B d v c r hd => he .no rfl δ μ σ H B d v c trivial hd) fun hm hq => mono_var hm hq
theorem need_at {g : Gr} {E : XK} {C : Addr} {fn : Str} {b : Bool} {s : Str} {k : Sl → Mus → Prop} {μ : Mus} (h1 : b = true → k dN μ) (h2 : b = false → Lets K g E C fn .no) :
    ∃ o, D22 [dB b, dS s] o ∧ (∀ r, o = .inl r → k r μ) ∧ ∀ r, o = .inr r → Lets K g E C fn r := by
  refine ⟨_, ⟨b, s, rfl, rfl⟩, fun r e => ?_, fun r e => ?_⟩
  · cases b with
    | true => cases e; exact h1 rfl
    | false => cases e
  · cases b with
    | true => cases e
    | false => cases e; exact h2 rfl
/-! ### check_blocked -/
theorem whyT_shape (y : Why Str) : ∃ rn dt, whyT y = [.str rn, dt] ∧ ((rn = "ground" ∧ ∃ i : Nat, y = .ground i ∧ dt = .int i) ∨ (rn = "missing" ∧ ∃ v, y = .missing v ∧ dt = .str v) ∨ (rn = "edge" ∧ ∃ vs, y = .edge vs ∧ dt = tS vs)) := by
  cases y with
  | ground i => exact ⟨_, _, rfl, .inl ⟨rfl, i, rfl, rfl⟩⟩
  | missing v => exact ⟨_, _, rfl, .inr (.inl ⟨rfl, v, rfl, rfl⟩)⟩
  | edge vs => exact ⟨_, _, rfl, .inr (.inr ⟨rfl, vs, rfl, rfl⟩)⟩
theorem why_k (S T : List Str) (f k : Nat) : ∀ y : Why Str, (∀ vs, y ≠ .edge vs) → whyOk ltS S T f k y = whyOk ltS S T f 0 y
  | .ground _, _ => rfl
  | .missing _, _ => rfl
  | .edge vs, h => absurd rfl (h vs)
def certD (c : Cert Str) : PyData := .tuple ([.int c.floor, tS c.wit] ++ whyT c.why)
theorem sc27 : FnScope ["stack", "target", "value", "reach", "is_reason", "floor", "witnesses", "reason", "detail"] ["stack", "target", "value", "reach"] (defScope (topS 27)) := ⟨rfl, rfl, rfl, by decide +kernel, rfl, by decide +kernel, by decide +kernel⟩
structure Cok (c : Cert Str) : Prop where
  wit : Pil c.wit
  why : match c.why with | .edge vs => vs.length < 1000 | _ => True
def D27 (ws : List Sl) (o : Out) : Prop := ∃ S T c k, ws = [.da (tS S), .da (tS T), .da (certD c), dI (k : Nat)] ∧ Pil S ∧ Pil T ∧ Cok c ∧ o = if checkL ltS S T k c then .inl (dB true) else .inr .no
theorem ok27 (T : Ty K mg) : FnOk P w K mg base (L2.CX P w) 4 T.f27.a T.f27.d ["stack", "target", "value", "reach"] (spX K T.x14.C "reason" D27) := by
  refine fn_goX T.f27.F sc27 (fun ws o h => by obtain ⟨_, _, _, _, rfl, _⟩ := h; rfl) (fun cdv A outer s H E hr => ⟨_, (pss_cons (ps_expr (pe_call (ok22 T) (hr.mono (by decide)) (by rfl) T.f22.g T.f22.F.kp T.f22.b .nil (passes_call (takes_of rfl rfl rfl rfl) (fun _ _ _ _ h => h)) (pa_cons (pe_and (pe_callB (r := rIsi K) call_isi (by rfl) T.z_isinstance (by decide +kernel) (pa_cons (pv 2) (pa_cons (pe_bltn (v := .ty "tuple") (by rfl) T.z_tuple (by decide +kernel) rfl) pa_nil))) (pe_one (pe_cmpR op_eq (pe_callB (r := Evl.rLenS K) call_lenS (by rfl) T.z_len (by decide +kernel) (pa_cons (pv 2) pa_nil)) pe_int (nomark _)))) (pa_cons pe_str pa_nil))))
      (pss_cons (ps_asg (pv 2) (pg_tup rfl (pgs_cons (pg_name (i := 5) sc27.nd rfl (.inl rfl)) (pgs_cons (pg_name (i := 6) sc27.nd rfl (.inl rfl)) (pgs_cons (pg_name (i := 7) sc27.nd rfl (.inl rfl)) (pgs_cons (pg_name (i := 8) sc27.nd rfl (.inl rfl)) pgs_nil))))))
      (pss_cons (ps_set (i := 4) sc27.nd rfl (.inl rfl) (pe_and (pe_callB (r := rIsi K) call_isi (by rfl) T.z_isinstance (by decide +kernel) (pa_cons (pv 7) (pa_cons (pe_bltn (v := .ty "str") (by rfl) T.z_str (by decide +kernel) rfl) pa_nil))) (pe_one (pe_cmpR (r := rIn K false) op_in_seq (pv 7) (pe_tupF (pa_cons pe_str (pa_cons pe_str (pa_cons pe_str pa_nil)))) (by rfl)))))
      (pss_cons (ps_expr (pe_call (ok22 T) (hr.mono (by decide)) (by rfl) T.f22.g T.f22.F.kp T.f22.b .nil (passes_call (takes_of rfl rfl rfl rfl) (fun _ _ _ _ h => h)) (pa_cons (pe_and (pe_callB (r := rIsi K) call_isi (by rfl) T.z_isinstance (by decide +kernel) (pa_cons (pv 5) (pa_cons (pe_bltn (v := .ty "int") (by rfl) T.z_int (by decide +kernel) rfl) pa_nil))) (pe_one (pe_not (pe_callB (r := rIsi K) call_isi (by rfl) T.z_isinstance (by decide +kernel) (pa_cons (pv 5) (pa_cons (pe_bltn (v := .ty "bool") (by rfl) T.z_bool (by decide +kernel) rfl) pa_nil)))))) (pa_cons pe_str pa_nil))))
      (pss_cons (ps_expr (pe_call (ok22 T) (hr.mono (by decide)) (by rfl) T.f22.g T.f22.F.kp T.f22.b .nil (passes_call (takes_of rfl rfl rfl rfl) (fun _ _ _ _ h => h)) (pa_cons (pe_and (pe_callB (r := rIsi K) call_isi (by rfl) T.z_isinstance (by decide +kernel) (pa_cons (pv 6) (pa_cons (pe_bltn (v := .ty "tuple") (by rfl) T.z_tuple (by decide +kernel) rfl) pa_nil))) (pe_one (pv 4))) (pa_cons pe_str pa_nil))))
      (pss_cons (ps_expr (pe_call (ok22 T) (hr.mono (by decide)) (by rfl) T.f22.g T.f22.F.kp T.f22.b .nil (passes_call (takes_of rfl rfl rfl rfl) (fun _ _ _ _ h => h)) (pa_cons (pe_call (ok20 T.toTx) (hr.mono (by decide)) (by rfl) T.f20.g T.f20.F.kp T.f20.b .nil pass0 (pa_cons (pv 5) (pa_cons pe_int (pa_cons (pe_op op_sub (pe_callB (r := Evl.rLenS K) call_lenS (by rfl) T.z_len (by decide +kernel) (pa_cons (pv 1) pa_nil)) pe_int) pa_nil)))) (pa_cons pe_str pa_nil))))
      (pss_cons (ps_if (pt_cmpR op_gt (pv 5) pe_int (nomark _)) (pss_one (ps_expr (pe_call (ok22 T) (hr.mono (by decide)) (by rfl) T.f22.g T.f22.F.kp T.f22.b .nil (passes_call (takes_of rfl rfl rfl rfl) (fun _ _ _ _ h => h)) (pa_cons (pe_call (ok23 T.toTx) (hr.mono (by decide)) (by rfl) T.f23.g T.f23.F.kp T.f23.b .nil pass0 (pa_cons (pv 6) (pa_cons (pe_slice (r := rSlF K) sl_tupF (pv 1) (po_some (pv 5)) po_none) (pa_cons (pe_op op_add (pv 3) pe_int) pa_nil)))) (pa_cons pe_str pa_nil))))) pss_nil)
      (pss_cons (ps_expr (pe_call (ok22 T) (hr.mono (by decide)) (by rfl) T.f22.g T.f22.F.kp T.f22.b .nil (passes_call (takes_of rfl rfl rfl rfl) (fun _ _ _ _ h => h)) (pa_cons (pe_or (pe_cmpR op_gt (pv 5) pe_int (nomark _)) (pe_one (pe_cmpR (r := rEqD K) (op_eqD hr.units) (pv 6) (pe_tupF pa_nil) (nomark _)))) (pa_cons pe_str pa_nil))))
      (pss_cons (ps_if (pt_cmpR op_eq (pv 7) pe_str (nomark _)) (pss_one (ps_expr (pe_call (ok22 T) (hr.mono (by decide)) (by rfl) T.f22.g T.f22.F.kp T.f22.b .nil (passes_call (takes_of rfl rfl rfl rfl) (fun _ _ _ _ h => h)) (pa_cons (pe_call (ok24 T.toTx) (hr.mono (by decide)) (by rfl) T.f24.g T.f24.F.kp T.f24.b .nil pass0 (pa_cons (pv 0) (pa_cons (pv 1) (pa_cons (pv 5) (pa_cons (pv 8) pa_nil))))) (pa_cons (pv 7) pa_nil))))) pss_nil)
      (pss_cons (ps_if (pt_cmpR op_eq (pv 7) pe_str (nomark _)) (pss_one (ps_expr (pe_call (ok22 T) (hr.mono (by decide)) (by rfl) T.f22.g T.f22.F.kp T.f22.b .nil (passes_call (takes_of rfl rfl rfl rfl) (fun _ _ _ _ h => h)) (pa_cons (pe_call (ok25 T.toTx) (hr.mono (by decide)) (by rfl) T.f25.g T.f25.F.kp T.f25.b .nil pass0 (pa_cons (pv 0) (pa_cons (pv 1) (pa_cons (pv 5) (pa_cons (pv 8) pa_nil))))) (pa_cons (pv 7) pa_nil))))) pss_nil)
      (pss_cons (ps_if (pt_cmpR op_eq (pv 7) pe_str (nomark _)) (pss_one (ps_expr (pe_call (ok22 T) (hr.mono (by decide)) (by rfl) T.f22.g T.f22.F.kp T.f22.b .nil (passes_call (takes_of rfl rfl rfl rfl) (fun _ _ _ _ h => h)) (pa_cons (pe_call (ok26 T.toTx) (hr.mono (by decide)) (by rfl) T.f26.g T.f26.F.kp T.f26.b .nil pass0 (pa_cons (pv 0) (pa_cons (pv 1) (pa_cons (pv 5) (pa_cons (pv 8) (pa_cons (pv 3) pa_nil)))))) (pa_cons (pv 7) pa_nil))))) pss_nil)
      (pss_one (ps_ret pe_bl))))))))))))), fun g ws o eg hd he => ?_⟩)
  obtain ⟨S, U, c, k, rfl, pS, pU, hc, rfl⟩ := hd
  walk_at "cx"
  obtain ⟨rn, dt, hwt, hrn⟩ := whyT_shape c.why
  have hcd : certD c = .tuple [.int c.floor, tS c.wit, .str rn, dt] := by unfold certD; rw [hwt]; rfl
  rw [hcd]
  have hU := pU.len
  have pn : Pil [] := ⟨fun _ h => (by cases h), by decide⟩
  have L : checkL ltS S U k c = false → Lets K g E T.x14.C "reason" .no := fun h => he .no (by rw [h]; rfl)
  have hrs : rn ∈ (["ground", "missing", "edge"] : List Str) := by
    rcases hrn with ⟨h, _⟩ | ⟨h, _⟩ | ⟨h, _⟩ <;> rw [h] <;> simp
  walk_at "go"
  refine ⟨fun _ => ?_, fun h => by cases h⟩
  walk_at "go"
  refine need_at (fun _ => ?_) (fun h => by simp at h)
  refine go_seq (go_unpack (is := [5, 6, 7, 8]) rfl ?_)
  walk_at "go"
  refine ⟨rfl, ?_⟩
  walk_at "go"
  refine ⟨fun _ => ?_, fun h => by cases h⟩
  walk_at "go"
  refine o_inF (ss := ["ground", "missing", "edge"]) ?_
  rw [decide_eq_true hrs]
  walk_at "go"
  refine ⟨fun _ => ?_, fun h => by cases h⟩
  walk_at "go"
  refine need_at (fun _ => ?_) (fun h => by cases h)
  walk_at "go"
  refine ⟨fun _ => ?_, fun h => by cases h⟩
  walk_at "go"
  refine need_at (fun _ => ?_) (fun h => by cases h)
  walk_at "go"
  refine ⟨_, ⟨c.floor, 0, (U.length : Int) - 1, rfl, rfl⟩, ?_⟩
  walk_at "go"
  refine need_at (fun h1 => ?_) (fun h1 => L ?_)
  rotate_left
  · unfold checkL
    have : ¬ (0 ≤ c.floor ∧ c.floor < U.length) := fun z => by
      have := of_decide_eq_false h1
      omega
    rw [decide_eq_false this, Bool.false_and, Bool.false_and]
  have h1' : 0 ≤ c.floor ∧ c.floor < U.length := by
    have := of_decide_eq_true h1
    omega
  obtain ⟨f, hf⟩ : ∃ f : Nat, c.floor = (f : Int) := ⟨c.floor.toNat, by omega⟩
  have ck : checkL ltS S U k c = ((if 0 < f then valuesOf ltS c.wit (U.drop f) (k + 1) else decide (c.wit = [])) && whyOk ltS S U f k c.why) := by
    unfold checkL
    rw [decide_eq_true h1', Bool.true_and, hf, Int.toNat_natCast]
    by_cases z : 0 < f
    · rw [if_pos z, if_pos (by omega)]
    · rw [if_neg z, if_neg (by omega)]
  rw [ck] at L ⊢
  rw [hf]
  obtain ⟨W, hWd⟩ : ∃ W, W = (if 0 < f then valuesOf ltS c.wit (U.drop f) (k + 1) else decide (c.wit = [])) := ⟨_, rfl⟩
  rw [← hWd] at L ⊢
  walk_at "go"
  refine ⟨fun h2 => ?_, fun h2 => ?_⟩
  · have z : 0 < f := by
      have := of_decide_eq_true h2
      omega
    rw [if_pos z] at hWd
    walk_at "go"
    refine os_from rfl ?_
    walk_at "go"
    refine ⟨_, ⟨c.wit, U.drop f, k + 1, by rw [show ((k + 1 : Nat) : Int) = (k : Int) + 1 by omega], by have := hc.wit.len; omega, rfl⟩, ?_⟩
    walk_at "go"
    refine need_at (fun h3 => ?_) (fun h3 => L (by rw [hWd, h3]; rfl))
    have hW : W = true := by rw [hWd, h3]
    walk_at "go"
    refine ⟨fun h => ?_, fun _ => ?_⟩
    · rw [h2] at h; cases h
    walk_at "go"
    refine need_at (fun _ => ?_) (fun h => by cases h)
    rw [hW, Bool.true_and] at L ⊢
    walk_at "go"
    rcases hrn with ⟨rfl, i, hy, rfl⟩ | ⟨rfl, v, hy, rfl⟩ | ⟨rfl, vs, hy, rfl⟩
    · have hk : whyOk ltS S U f k c.why = whyOk ltS S U f 0 (.ground i) := by rw [hy]; rfl
      rw [hk] at L ⊢
      refine ⟨fun _ => ?_, fun h => absurd h (by decide +kernel)⟩
      walk_at "go"
      refine ⟨_, ⟨S, U, f, i, rfl, pS, pU, rfl⟩, ?_⟩
      walk_at "go"
      refine need_at (fun h4 => ?_) L
      rw [h4]
      walk_at "go"
      refine ⟨fun h => absurd h (by decide +kernel), fun _ => ?_⟩
      walk_at "go"
      refine ⟨fun h => absurd h (by decide +kernel), fun _ => ?_⟩
      walk_at "go"
      rfl
    · have hk : whyOk ltS S U f k c.why = whyOk ltS S U f 0 (.missing v) := by rw [hy]; rfl
      rw [hk] at L ⊢
      refine ⟨fun h => absurd h (by decide +kernel), fun _ => ?_⟩
      walk_at "go"
      refine ⟨fun _ => ?_, fun h => absurd h (by decide +kernel)⟩
      walk_at "go"
      refine ⟨_, ⟨S, U, f, v, rfl, rfl⟩, ?_⟩
      walk_at "go"
      refine need_at (fun h4 => ?_) L
      rw [h4]
      walk_at "go"
      refine ⟨fun h => absurd h (by decide +kernel), fun _ => ?_⟩
      walk_at "go"
      rfl
    · have hk : whyOk ltS S U f k c.why = whyOk ltS S U f k (.edge vs) := by rw [hy]
      have hvl : vs.length < 1000 := by
        have := hc.why
        rw [hy] at this
        exact this
      rw [hk] at L ⊢
      refine ⟨fun h => absurd h (by decide +kernel), fun _ => ?_⟩
      walk_at "go"
      refine ⟨fun h => absurd h (by decide +kernel), fun _ => ?_⟩
      walk_at "go"
      refine ⟨fun _ => ?_, fun h => absurd h (by decide +kernel)⟩
      walk_at "go"
      refine ⟨_, ⟨S, U, f, vs, k, rfl, pS, pU, hvl, rfl⟩, ?_⟩
      walk_at "go"
      refine need_at (fun h4 => ?_) L
      rw [h4]
      walk_at "go"
      rfl
  · have z : ¬ 0 < f := by
      have := of_decide_eq_false h2
      omega
    rw [if_neg z] at hWd
    walk_at "go"
    refine ⟨fun _ => ?_, fun h => ?_⟩
    rotate_left
    · rw [h2] at h; cases h
    walk_at "go"
    refine o_eqP (b := []) hc.wit pn ?_
    walk_at "go"
    refine need_at (fun h3 => ?_) (fun h3 => L (by rw [hWd, h3]; rfl))
    have hW : W = true := by rw [hWd, h3]
    rw [hW, Bool.true_and] at L ⊢
    walk_at "go"
    rcases hrn with ⟨rfl, i, hy, rfl⟩ | ⟨rfl, v, hy, rfl⟩ | ⟨rfl, vs, hy, rfl⟩
    · have hk : whyOk ltS S U f k c.why = whyOk ltS S U f 0 (.ground i) := by rw [hy]; rfl
      rw [hk] at L ⊢
      refine ⟨fun _ => ?_, fun h => absurd h (by decide +kernel)⟩
      walk_at "go"
      refine ⟨_, ⟨S, U, f, i, rfl, pS, pU, rfl⟩, ?_⟩
      walk_at "go"
      refine need_at (fun h4 => ?_) L
      rw [h4]
      walk_at "go"
      refine ⟨fun h => absurd h (by decide +kernel), fun _ => ?_⟩
      walk_at "go"
      refine ⟨fun h => absurd h (by decide +kernel), fun _ => ?_⟩
      walk_at "go"
      rfl
    · have hk : whyOk ltS S U f k c.why = whyOk ltS S U f 0 (.missing v) := by rw [hy]; rfl
      rw [hk] at L ⊢
      refine ⟨fun h => absurd h (by decide +kernel), fun _ => ?_⟩
      walk_at "go"
      refine ⟨fun _ => ?_, fun h => absurd h (by decide +kernel)⟩
      walk_at "go"
      refine ⟨_, ⟨S, U, f, v, rfl, rfl⟩, ?_⟩
      walk_at "go"
      refine need_at (fun h4 => ?_) L
      rw [h4]
      walk_at "go"
      refine ⟨fun h => absurd h (by decide +kernel), fun _ => ?_⟩
      walk_at "go"
      rfl
    · have hk : whyOk ltS S U f k c.why = whyOk ltS S U f k (.edge vs) := by rw [hy]
      have hvl : vs.length < 1000 := by
        have := hc.why
        rw [hy] at this
        exact this
      rw [hk] at L ⊢
      refine ⟨fun h => absurd h (by decide +kernel), fun _ => ?_⟩
      walk_at "go"
      refine ⟨fun h => absurd h (by decide +kernel), fun _ => ?_⟩
      walk_at "go"
      refine ⟨fun _ => ?_, fun h => absurd h (by decide +kernel)⟩
      walk_at "go"
      refine ⟨_, ⟨S, U, f, vs, k, rfl, pS, pU, hvl, rfl⟩, ?_⟩
      walk_at "go"
      refine need_at (fun h4 => ?_) L
      rw [h4]
      walk_at "go"
      rfl
end
end De
end
section
set_option Elab.async false
set_option linter.all false
set_option maxRecDepth 100000
set_option maxHeartbeats 2000000
/-! [item for part in parts for item in f(part)] -/
namespace De
open PySem L2 PySem.Spec PyProof.Rows RZ
theorem pi_listK {X : Cx} {K : PySem.W.Frag} {tg l : Expr} {tl : TE} (hK : X.K = K) (hl : PE X l tl) : PI X tg l (iList K tl) := by subst hK; exact pi_list hl
section
variable {K : PySem.W.Frag} {g : Gr} {δ : List Sl} {μ : Mus} {k : Sl → Mus → Prop} {tl tl1 : TE}
theorem ev_lc2 {j j1 : Nat} {vs : List Nat} (hj : j ∈ vs) (hj1 : j1 ∈ vs) (hne : j ≠ j1) (hd1 : j1 < δ.length) (h : Ev K g δ μ tl fun w μ1 => ∃ ds, w = dT ds ∧ ∃ f : PyData → List PyData, (ds.flatMap f).length < 80000 ∧ (∀ x, x ∈ g.ms → x ∈ μ1.map (·.1)) ∧
      (∀ d, d ∈ ds → ∀ μ', Ev K g ((wipeS δ vs).set j (.da d)) (μ1 ++ μ') tl1 fun w μ2 => w = dL (f d) ∧ μ2 = μ1 ++ μ') ∧ k (dL (ds.flatMap f)) μ1) :
    Ev K g δ μ (tLc2 (iTup K tl) (gName j) tYes (iList K tl1) (gName j1) tYes (tVar j1) vs [j1]) k := by
  refine ev_frz fun σ H B c Q hq => h σ H B c _ fun w μ1 v H1 B1 h1 c1 s1 r1 => ?_
  obtain ⟨ds, e, f, hz, hm, hb, hk⟩ := h1
  subst e
  obtain ⟨p, xs, rfl, h2, h3⟩ := dp_tup r1
  refine ⟨p, rfl, ⟨xs, same_t c1.bh h2⟩, fun Dl hD => ?_⟩
  have hlen := DpAll.len h3
  refine ⟨fun i m H => m = ds.length - i ∧ i ≤ ds.length ∧ ∃ B', Cta K g δ (μ1 ++ [(Dl, .lis (((ds.take i).flatMap f).map Sl.da))]) σ H B' ∧ Same B1 B', ⟨_, rfl, Nat.zero_le _, B1, c1.newM (m := .lis []) hD ⟨[], upd_same, .nil⟩, Same.rfl'⟩, fun i m H' ⟨em, il, B', c', s'⟩ => ?_⟩
  have qa : SqT K H' p xs := same_t c'.bh (same_t s' h2)
  by_cases hlt : i < ds.length
  · right
    have l1 : i < xs.length := by omega
    refine ⟨⟨xs, _, qa, List.getElem?_eq_getElem l1⟩, fun H => ∃ B', Cta K g δ (μ1 ++ [(Dl, .lis (((ds.take (i + 1)).flatMap f).map Sl.da))]) σ H B' ∧ Same B1 B', fun H2 ⟨B2, c2, s2⟩ => ⟨ds.length - (i + 1), by omega, rfl, hlt, B2, c2, s2⟩, fun x H2 yl => ?_⟩
    obtain ⟨rfl, hx⟩ := yl
    obtain ⟨d, hd, hr⟩ := DpAll.get' h3 (hx xs qa)
    have cw := (c'.wipe vs).store (i := j) (w := .da d) (dp_same s' hr)
    refine ⟨wipe_set hj, ?_⟩
    simp only [tYes, ↓reduceIte]
    have etake : (ds.take (i + 1)).flatMap f = (ds.take i).flatMap f ++ f d := by
      rw [List.take_add_one, hd, Option.toList_some, List.flatMap_append]
      simp
    have hsz : ((ds.take i).flatMap f ++ f d).length ≤ (ds.flatMap f).length := by
      rw [← etake]
      have := List.take_append_drop (i + 1) ds
      have e2 : (ds.flatMap f).length = ((ds.take (i + 1)).flatMap f).length + ((ds.drop (i + 1)).flatMap f).length := by
        rw [← List.length_append, ← List.flatMap_append, this]
      omega
    refine hb d (List.mem_of_getElem? hd) _ _ H2 B' cw _ fun w2 μ2 v2 H3 B3 ⟨e1, e2⟩ c3 s3 r3 => ?_
    subst e1 e2
    obtain ⟨a, ys, rfl, h4, h5⟩ := dp_lst r3
    have ylen := DpAll.len h5
    refine ⟨a, rfl, ⟨ys, same_l c3.bh h4⟩, fun n m H => m = (f d).length - n ∧ n ≤ (f d).length ∧ ∃ B', Cta K g δ (μ1 ++ [(Dl, .lis (((ds.take i).flatMap f ++ (f d).take n).map Sl.da))]) σ H B' ∧ Same B3 B', ⟨_, rfl, Nat.zero_le _, B3, ?_, Same.rfl'⟩, fun n m H4 ⟨em, nl, B4, c4, s4⟩ => ?_⟩
    · have := c'.unwipe c3 s3
      simpa using this
    have qb : SqL K H4 a ys := same_l c4.bh (same_l s4 h4)
    by_cases hlt2 : n < (f d).length
    · right
      have l2 : n < ys.length := by omega
      refine ⟨⟨ys, _, qb, List.getElem?_eq_getElem l2⟩, fun H => ∃ B', Cta K g δ (μ1 ++ [(Dl, .lis (((ds.take i).flatMap f ++ (f d).take (n + 1)).map Sl.da))]) σ H B' ∧ Same B3 B', fun H5 ⟨B5, c5, s5⟩ => ⟨(f d).length - (n + 1), by omega, rfl, hlt2, B5, c5, s5⟩, fun y H5 yl => ?_⟩
      obtain ⟨rfl, hy⟩ := yl
      obtain ⟨e, he, hre⟩ := DpAll.get' h5 (hy ys qb)
      refine ⟨wipe_set (by simp), ?_⟩
      refine ⟨y, ?_, ?_⟩
      · rw [List.getElem?_set_self (by rw [wipe_length, List.length_set, wipe_length, c'.ln]; exact hd1)]
      obtain ⟨ac, a1, a2⟩ := c4.lis (last_get μ1 _)
      have hal := a2.len
      have c5 := c4.write (last_get μ1 _) (o := .lst (ac ++ [y])) (m' := .lis ((((ds.take i).flatMap f ++ (f d).take n).map Sl.da) ++ [.da e])) ⟨_, upd_same, a2.snoc (w := .da e) (dp_same s4 hre)⟩
      rw [last_set] at c5
      refine ⟨ac, a1, sz_lt ?_, B4, ?_, s4⟩
      · rw [hal, List.length_map, List.length_append, List.length_take]
        rw [List.length_append] at hsz
        omega
      · rw [List.take_add_one, he, Option.toList_some, ← List.append_assoc, List.map_append]
        exact c5
    · left
      have : n = (f d).length := by omega
      subst this
      refine ⟨⟨ys, qb, by omega⟩, B4, ?_, s'.trans (s3.trans s4)⟩
      rw [etake]
      rw [List.take_length] at c4
      exact c4
  · left
    have : i = ds.length := by omega
    subst this
    refine ⟨⟨xs, qa, by omega⟩, hq _ _ _ _ _ ⟨Dl, ds.flatMap f, μ1, rfl, ?_, hm, hk⟩ c' (s1.trans s') rfl⟩
    rw [List.take_length]
end
end De
end
section
set_option Elab.async false
set_option linter.all false
set_option maxRecDepth 100000
set_option maxHeartbeats 2000000
/-! instructions.py, machine.py's plain part -/
namespace De
open PySem L2 PySem.Spec PyProof.Rows RZ
section
variable {K : PySem.W.Frag} {g : Gr} {δ : List Sl} {μ : Mus} {k : Sl → Mus → Prop}
theorem o_ix0 {d : PyData} {r : List PyData} (q : k (.da d) μ) : Op2 K g δ (rIx K) (dT (d :: r)) (dI 0) μ k := o_ixT (atI_ofNat (n := 0) rfl rfl) q
theorem o_ix1 {c d : PyData} {r : List PyData} (q : k (.da d) μ) : Op2 K g δ (rIx K) (dT (c :: d :: r)) (dI 1) μ k := o_ixT (atI_ofNat (n := 1) rfl rfl) q
theorem os_init {ss : List Str} (q : k (.da (tS (ss.take (ss.length - 1)))) μ) : OpSl K g δ (rSlF K) (.da (tS ss)) none (some (-1)) μ k := os_tup (by
  rw [cut_map]
  have e : cutD ss none (some (-1)) = ss.take (ss.length - 1) := by
    unfold cutD
    have : HT.sIx ss.length ss.length (some (-1)) = ss.length - 1 := by
      show (if (-1 : Int) < 0 then ((-1 : Int) + (ss.length : Int)).toNat else min (-1 : Int).toNat ss.length) = _
      rw [if_pos (by decide)]
      omega
    rw [this, HT.sIx_none, List.drop_zero, Nat.sub_zero]
  rw [e]; exact q)
theorem os_tail {ss : List Str} (q : k (.da (tS (ss.drop (ss.length - 1)))) μ) : OpSl K g δ (rSlF K) (.da (tS ss)) (some (-1)) none μ k := os_tup (by
  rw [cut_map]
  have e : cutD ss (some (-1)) none = ss.drop (ss.length - 1) := by
    unfold cutD
    have : HT.sIx ss.length 0 (some (-1)) = ss.length - 1 := by
      show (if (-1 : Int) < 0 then ((-1 : Int) + (ss.length : Int)).toNat else min (-1 : Int).toNat ss.length) = _
      rw [if_pos (by decide)]
      omega
    rw [this, HT.sIx_none]
    exact List.take_of_length_le (by rw [List.length_drop]; exact Nat.le_refl _)
  rw [e]; exact q)
theorem os_midN {ss : List Str} {i : Int} {n : Nat} (e0 : i = (n : Int)) (q : k (.da (tS ((ss.take (ss.length - 1)).drop n))) μ) : OpSl K g δ (rSlF K) (.da (tS ss)) (some i) (some (-1)) μ k := os_tup (by
  rw [cut_map]
  have e : cutD ss (some i) (some (-1)) = (ss.take (ss.length - 1)).drop n := by
    have h1 : HT.sIx ss.length ss.length (some (-1)) = ss.length - 1 := by
      show (if (-1 : Int) < 0 then ((-1 : Int) + (ss.length : Int)).toNat else min (-1 : Int).toNat ss.length) = _
      rw [if_pos (by decide)]
      omega
    have h2 := cut_mid ss n (ss.length - 1)
    unfold cutD at h2 ⊢
    have h3 : HT.sIx ss.length ss.length (some ((ss.length - 1 : Nat) : Int)) = ss.length - 1 := by
      rw [HT.sIx_nat]; omega
    rw [h3] at h2
    rw [h1, e0, h2]
  rw [e]; exact q)
end
@[reducible] def insD : Ins → PyData
  | .pop => .tuple [.str "pop"]
  | .dup i => .tuple [.str "dup", .int (i : Nat)]
  | .swap i => .tuple [.str "swap", .int (i : Nat)]
def insL (x : Ins) : List PyData := match x with
  | .pop => [.str "pop"]
  | .dup i => [.str "dup", .int (i : Nat)]
  | .swap i => [.str "swap", .int (i : Nat)]
theorem insD_eq (x : Ins) : insD x = .tuple (insL x) := by cases x <;> rfl
def insOk (k : Nat) : Ins → Bool
  | .pop => true
  | .dup i => decide (1 ≤ i ∧ i ≤ k)
  | .swap i => decide (1 ≤ i ∧ i ≤ k)
theorem okS_pop : okS "pop" = true := by decide +kernel
theorem okS_dup : okS "dup" = true := by decide +kernel
theorem okS_swap : okS "swap" = true := by decide +kernel
theorem ins_pl (x : Ins) : plD (insD x) = true := by cases x <;> simp [insD, plD, plDs, okS_pop, okS_dup, okS_swap]
theorem ins_sh (x : Ins) : SeqAt.shaped (insD x) = true := shaped_pl (ins_pl x) (by cases x <;> simp [insD, PyData.depth, PyData.depthAll])
/-- what is a tuple of tuples -/
def Tups (ds : List PyData) : Prop := ∀ d, d ∈ ds → ∃ es, d = .tuple es
theorem tups_ins (l : List Ins) : Tups (l.map insD) := fun d hd => by
  obtain ⟨x, _, rfl⟩ := List.mem_map.mp hd
  exact ⟨_, insD_eq x⟩
local macro_rules | `(tactic| walk_at "de") => `(tactic| first
  | with_reducible refine go_seq ?_
  | with_reducible refine go_set ?_
  | with_reducible refine go_ret ?_
  | with_reducible refine go_if ?_
  | with_reducible refine go_next ?_
  | with_reducible refine go_drop ?_
  | ((with_reducible apply ev_da); exact rfl)
  | ((with_reducible apply ev_va); exact rfl)
  | with_reducible refine ev_c ?_
  | with_reducible refine ev_op ?_
  | with_reducible refine ev_un ?_
  | with_reducible refine ea_nil ?_
  | with_reducible refine ea_cons ?_
  | with_reducible refine ev_sortset ?_
  | with_reducible refine ev_cb ?_
  | with_reducible refine eb_test ?_
  | with_reducible refine eb_B ?_
  | with_reducible refine eb_and ?_
  | with_reducible refine eb_or ?_
  | with_reducible refine eb_not ?_
  | with_reducible refine ev_andV ?_
  | with_reducible refine ev_orV ?_
  | with_reducible refine ev_notV ?_
  | with_reducible refine ev_if ?_
  | with_reducible refine ev_sl ?_
  | with_reducible refine eo_no ?_
  | with_reducible refine eo_some ?_
  | with_reducible refine ev_tup' ?_
  | with_reducible refine ev_callX ?_
  | with_reducible refine ev_callP ?_
  | with_reducible refine ev_callNP ?_
  | with_reducible refine ev_call ?_
  | with_reducible refine ev_callN ?_
  | with_reducible refine ev_chain ?_
  | with_reducible refine o_I0 ?_
  | with_reducible refine o_eqI ?_
  | with_reducible refine o_neI ?_
  | with_reducible refine o_eqS ?_
  | with_reducible refine o_neS ?_
  | with_reducible refine o_isN ?_
  | with_reducible refine o_notN ?_
  | with_reducible refine o_ltS ?_
  | with_reducible refine o_U ?_
  | with_reducible refine oc_len_tS ?_
  | with_reducible refine oc_len_lS ?_
  | with_reducible refine oc_len_t ?_
  | with_reducible refine oc_len_l ?_
  | with_reducible refine o_ix0 ?_
  | with_reducible refine o_ix1 ?_
  | with_reducible refine ev_dnew ?_
  | with_reducible refine oc_isiT ?_
  | with_reducible refine oc_isiTL ?_
  | with_reducible refine oc_isiI ?_
  | with_reducible refine oc_isiIB ?_
  | with_reducible refine oc_isiS ?_
  | with_reducible refine oc_min2 ?_
  | with_reducible refine oc_max2 ?_
  | with_reducible refine oc_abs ?_
  | with_reducible refine oc_tup_lS ?_
  | with_reducible refine oc_tup_l ?_
  | with_reducible refine o_inF ?_
  | with_reducible refine o_inT ?_
  | with_reducible refine o_inLF ?_
  | with_reducible refine o_inLT ?_
  | with_reducible refine eb_yes ?_
  | (refine Exists.intro _ (And.intro (show dats _ = some _ from rfl) (And.intro (show Nat.ble _ 60 = true from rfl) ?_)))
  | with_reducible refine Exists.intro _ (And.intro rfl ?_))
local macro_rules | `(tactic| walk_at "cx") => `(tactic| try simp only [cx_K, cx_K'])
local macro_rules | `(tactic| walk_at "go") => `(tactic| repeat walk_at "de")

section
variable {P : Program} {w : World} {K : PySem.W.Frag} {mg : Str → Option Value} {base : Heap}
theorem sc35 : FnScope ["instruction"] ["instruction"] (defScope (topS 35)) := ⟨rfl, rfl, rfl, by decide +kernel, rfl, by decide +kernel, by decide +kernel⟩
def D35 (ws : List Sl) (r : Sl) : Prop := ∃ x : Ins, ws = [.da (insD x)] ∧ r = dI x.need
theorem ok35 (T : Tx K mg) : FnOk P w K mg base CX0 1 T.f35.a T.f35.d ["instruction"] (spG K (pu D35)) := by
  refine fn_go T.f35.F sc35 (fun ws μ k h => by obtain ⟨_, _, ⟨_, rfl, _⟩, _⟩ := h; rfl) (fun cdv A outer s H E hr => ⟨_, (pss_cons (ps_if (pt_cmpR op_eq (pe_ix (r := rIx K) ix_seq (pv 0) pe_int (fun _ _ => rfl)) (pe_glob rfl T.mPOP T.cPOP) (nomark _)) (pss_one (ps_ret pe_int)) pss_nil)
      (pss_one (ps_ret (pe_op op_add (pe_ix (r := rIx K) ix_seq (pv 0) pe_int (fun _ _ => rfl)) (pe_callTy call_int1 (by rfl) T.z_int (by decide +kernel) (pa_cons (pe_cmpR op_eq (pe_ix (r := rIx K) ix_seq (pv 0) pe_int (fun _ _ => rfl)) (pe_glob rfl T.mSWAP T.cSWAP) (nomark _)) pa_nil)))))), fun g ws μ k eg h => ?_⟩)
  refine pu_go eg h fun r hd eg => ?_
  obtain ⟨x, rfl, rfl⟩ := hd
  walk_at "cx"
  cases x with
  | pop =>
    walk_at "go"
    refine ⟨fun _ => ?_, fun h => absurd h (by decide +kernel)⟩
    walk_at "go"
    rfl
  | dup i =>
    walk_at "go"
    refine ⟨fun h => absurd h (by decide +kernel), fun _ => ?_⟩
    walk_at "go"
    rw [show decide (("dup" : Str) = "swap") = false by decide +kernel]
    refine oc_intB ?_
    walk_at "go"
    refine congrArg dI (show _ = ((i : Nat) : Int) from ?_)
    rw [if_neg (by decide)]
    omega
  | swap i =>
    walk_at "go"
    refine ⟨fun h => absurd h (by decide +kernel), fun _ => ?_⟩
    walk_at "go"
    rw [show decide (("swap" : Str) = "swap") = true by decide +kernel]
    refine oc_intB ?_
    walk_at "go"
    refine congrArg dI (show _ = ((i + 1 : Nat) : Int) from ?_)
    rw [if_pos rfl]
    omega
theorem sc53 : FnScope ["height", "instruction"] ["height", "instruction"] (defScope (topS 53)) := ⟨rfl, rfl, rfl, by decide +kernel, rfl, by decide +kernel, by decide +kernel⟩
def D53 (ws : List Sl) (r : Sl) : Prop := ∃ (h : Int) (x : Ins), ws = [dI h, .da (insD x)] ∧ r = dI (h - x.need)
theorem ok53 (T : Tx K mg) : FnOk P w K mg base CX0 2 T.f53.a T.f53.d ["height", "instruction"] (spG K (pu D53)) := by
  refine fn_go T.f53.F sc53 (fun ws μ k h => by obtain ⟨_, _, ⟨_, _, rfl, _⟩, _⟩ := h; rfl) (fun cdv A outer s H E hr => ⟨_, (pss_one (ps_ret (pe_op op_sub (pv 0) (pe_call (ok35 T) (hr.mono (by decide)) (by rfl) T.f35.g T.f35.F.kp T.f35.b .nil pass0 (pa_cons (pv 1) pa_nil))))), fun g ws μ k eg h => ?_⟩)
  refine pu_go eg h fun r hd eg => ?_
  obtain ⟨h, x, rfl, rfl⟩ := hd
  walk_at "cx"
  walk_at "go"
  refine ⟨_, ⟨x, rfl, rfl⟩, ?_⟩
  walk_at "go"
  rfl
theorem sc32 : FnScope ["thing", "reach", "word", "distance"] ["thing", "reach"] (defScope (topS 32)) := ⟨rfl, rfl, rfl, by decide +kernel, rfl, by decide +kernel, by decide +kernel⟩
def D32 (ws : List Sl) (r : Sl) : Prop := ∃ (x : Ins) (k : Nat), ws = [.da (insD x), dI k] ∧ r = dB (insOk k x)
theorem ok32 (T : Tx K mg) : FnOk P w K mg base CX0 2 T.f32.a T.f32.d ["thing", "reach"] (spG K (pu D32)) := by
  refine fn_go T.f32.F sc32 (fun ws μ k h => by obtain ⟨_, _, ⟨_, _, rfl, _⟩, _⟩ := h; rfl) (fun cdv A outer s H E hr => ⟨_, (pss_cons (ps_if (pt_cmpR (r := rEqD K) (op_eqD hr.units) (pv 0) (pe_tupF (pa_cons (pe_glob rfl T.mPOP T.cPOP) pa_nil)) (nomark _)) (pss_one (ps_ret pe_bl)) pss_nil)
      (pss_cons (ps_if (PW.pt (pw_or (pt_not (pt_val (pe_callB (r := rIsi K) call_isi (by rfl) T.z_isinstance (by decide +kernel) (pa_cons (pv 0) (pa_cons (pe_bltn (v := .ty "tuple") (by rfl) T.z_tuple (by decide +kernel) rfl) pa_nil))))) (pw_or1 (pt_cmpR op_ne (pe_callB (r := Evl.rLenS K) call_lenS (by rfl) T.z_len (by decide +kernel) (pa_cons (pv 0) pa_nil)) pe_int (nomark _))))) (pss_one (ps_ret pe_bl)) pss_nil)
      (pss_cons (ps_asg (pv 0) (pg_tup rfl (pgs_cons (pg_name (i := 2) sc32.nd rfl (.inl rfl)) (pgs_cons (pg_name (i := 3) sc32.nd rfl (.inl rfl)) pgs_nil))))
      (pss_one (ps_ret (pe_and (pe_callB (r := rIsi K) call_isi (by rfl) T.z_isinstance (by decide +kernel) (pa_cons (pv 2) (pa_cons (pe_bltn (v := .ty "str") (by rfl) T.z_str (by decide +kernel) rfl) pa_nil))) (pe_and (pe_cmpR (r := rIn K false) op_in_seq (pv 2) (pe_tupF (pa_cons (pe_glob rfl T.mDUP T.cDUP) (pa_cons (pe_glob rfl T.mSWAP T.cSWAP) pa_nil))) (by rfl)) (pe_one (pe_call (ok20 T) (hr.mono (by decide)) (by rfl) T.f20.g T.f20.F.kp T.f20.b .nil pass0 (pa_cons (pv 3) (pa_cons pe_int (pa_cons (pv 1) pa_nil)))))))))))), fun g ws μ k eg h => ?_⟩)
  refine pu_go eg h fun r hd eg => ?_
  obtain ⟨x, k, rfl, rfl⟩ := hd
  walk_at "cx"
  walk_at "go"
  refine o_eqD (ins_sh x) (e := insD .pop) (ins_sh .pop) ?_
  rw [eqv_dec (ins_pl x) (ins_pl .pop) (p := x = .pop) (by cases x <;> simp [insD])]
  walk_at "go"
  refine ⟨fun h => ?_, fun h => ?_⟩
  · have h' : x = .pop := of_decide_eq_true h
    walk_at "go"
    rw [h']
    rfl
  have h' : x ≠ .pop := of_decide_eq_false h
  have hx : ∃ (y : Str) (i : Nat), insD x = .tuple [.str y, .int i] ∧ y ∈ (["dup", "swap"] : List Str) ∧ insOk k x = decide (1 ≤ i ∧ i ≤ k) := by
    cases x with
    | pop => exact absurd rfl h'
    | dup i => exact ⟨"dup", i, rfl, by simp, rfl⟩
    | swap i => exact ⟨"swap", i, rfl, by simp, rfl⟩
  obtain ⟨y, i, e1, e2, e3⟩ := hx
  rw [e1, e3]
  refine go_next (go_seq (go_if (eb_orP ?_)))
  walk_at "go"
  refine ⟨false, fun _ => ?_, ?_⟩
  · walk_at "go"
    exact ⟨rfl, rfl⟩
  refine ⟨fun h => (by cases h), fun _ => ?_⟩
  refine go_next (go_seq (go_unpack (is := [2, 3]) rfl ?_))
  walk_at "go"
  refine ⟨rfl, ?_⟩
  walk_at "go"
  refine ⟨fun _ => ?_, fun h => by cases h⟩
  walk_at "go"
  refine o_inF (ss := ["dup", "swap"]) ?_
  rw [decide_eq_true e2]
  walk_at "go"
  refine ⟨fun _ => ?_, fun h => by cases h⟩
  walk_at "go"
  refine ⟨_, ⟨(i : Int), 1, (k : Int), rfl, rfl⟩, ?_⟩
  refine congrArg dB (decide_eq_decide.mpr ?_)
  omega
theorem sc33 : FnScope ["part", "item"] ["part"] (defScope (topS 33)) := ⟨rfl, rfl, rfl, by decide +kernel, rfl, by decide +kernel, by decide +kernel⟩
def D33 (ws : List Sl) (r : Sl) : Prop := ∃ ds, ws = [dT ds] ∧ Tups ds ∧ ds.length < 80000 ∧ r = dL ds
theorem ok33 (T : Tx K mg) : FnOk P w K mg base CX0 1 T.f33.a T.f33.d ["part"] (spG K (pu D33)) := by
  refine fn_go T.f33.F sc33 (fun ws μ k h => by obtain ⟨_, _, ⟨_, rfl, _⟩, _⟩ := h; rfl) (fun cdv A outer s H E hr => ⟨_, (pss_cons (ps_if (PW.pt (pw_or (pt_val (pe_callB (r := rIsi K) call_isi (by rfl) T.z_isinstance (by decide +kernel) (pa_cons (pv 0) (pa_cons (pe_bltn (v := .ty "list") (by rfl) T.z_list (by decide +kernel) rfl) pa_nil)))) (pw_or1 (PW.pt (pw_and (pt_val (pe_callB (r := rIsi K) call_isi (by rfl) T.z_isinstance (by decide +kernel) (pa_cons (pv 0) (pa_cons (pe_bltn (v := .ty "tuple") (by rfl) T.z_tuple (by decide +kernel) rfl) pa_nil)))) (pw_and1 (pt_val (pe_callB (r := rAll K) (cr_all rfl) (by rfl) T.z_all (by decide +kernel) (pa_cons (pe_lc (g := gName 1) (tt := tYes) (own := [("item", 1)]) rfl sc33.nd (pi_tup (pv 0)) (blkOk_by (N := ["part", "item"]) (sc := defScope (topS 33)) (own := [("item", 1)]) (by decide +kernel)) (fun _ _ _ _ _ => pg_name (i := 1) sc33.nd rfl (.inl rfl)) (fun _ _ _ _ _ => pts_nil) (fun _ _ _ _ _ => pe_callB (r := rIsi K) call_isi (by rfl) T.z_isinstance (by decide +kernel) (pa_cons (pv 1) (pa_cons (pe_bltn (v := .ty "tuple") (by rfl) T.z_tuple (by decide +kernel) rfl) pa_nil)))) pa_nil))))))))) (pss_one (ps_ret (pe_callTy (r := Evl.rListS K) call_listS (by rfl) T.z_list (by decide +kernel) (pa_cons (pv 0) pa_nil)))) pss_nil)
      (pss_one (ps_ret (pe_lst (pa_cons (pv 0) pa_nil))))), fun g ws μ k eg h => ?_⟩)
  refine pu_go eg h fun r hd eg => ?_
  obtain ⟨ds, rfl, ht, hl, rfl⟩ := hd
  walk_at "cx"
  refine go_seq (go_if ?_)
  walk_at "go"
  refine ⟨fun _ => ?_, fun h => by cases h⟩
  walk_at "go"
  refine ⟨fun _ => ?_, fun h => by cases h⟩
  walk_at "go"
  refine ev_compT (by simp) ?_
  walk_at "go"
  refine ⟨fun _ => true, fun d => .bool true, by omega, by rw [eg]; simp, fun d hd => pureE_all fun μ' => ?_, ?_⟩
  · obtain ⟨es, rfl⟩ := ht d hd
    walk_at "go"
    exact ⟨rfl, rfl⟩
  have e : outD ds (fun _ => true) (fun _ => PyData.bool true) = (ds.map fun _ => true).map PyData.bool := by
    unfold outD
    rw [List.filter_eq_self.mpr fun _ _ => rfl, List.map_map]; rfl
  rw [e]
  walk_at "go"
  refine oc_all ?_
  walk_at "go"
  have e2 : (ds.map fun _ => true).all id = true := by
    rw [List.all_map]; simp
  rw [e2]
  refine ⟨fun _ => ?_, fun h => by cases h⟩
  refine go_ret (ev_frz ?_)
  walk_at "go"
  refine oc_list_t fun p => ?_
  exact ⟨p, ds, [], rfl, rfl, by rw [eg]; simp, rfl⟩
theorem sc34 : FnScope ["parts", "part", "item"] ["parts"] (defScope (topS 34)) := ⟨rfl, rfl, rfl, by decide +kernel, rfl, by decide +kernel, by decide +kernel⟩
def D34 (ws : List Sl) (r : Sl) : Prop := ∃ ds, ws = [dT [.tuple ds]] ∧ Tups ds ∧ ds.length < 70000 ∧ r = dL ds
theorem ok34 (T : Tx K mg) : FnOk P w K mg base CX0 2 T.f34.a T.f34.d ["parts"] (spG K (pu D34)) := by
  refine fn_go T.f34.F sc34 (fun ws μ k h => by obtain ⟨_, _, ⟨_, rfl, _⟩, _⟩ := h; rfl) (fun cdv A outer s H E hr => ⟨_, (pss_one (ps_ret (pe_lc2 (g := gName 1) (tt := tYes) (g1 := gName 2) (tt1 := tYes) (vs1 := [2]) (own := [("part", 1), ("item", 2)]) rfl sc34.nd (pi_tup (pv 0)) (blkOk_by (N := ["parts", "part", "item"]) (sc := defScope (topS 34)) (own := [("part", 1), ("item", 2)]) (by decide +kernel)) (by simp) (fun _ _ _ _ _ => pg_name (i := 1) sc34.nd rfl (.inl rfl)) (fun _ _ _ _ _ => pts_nil)
    (fun _ _ _ _ _ => pi_listK (K := K) rfl (pe_call (ok33 T) (hr.mono (by decide)) (by rfl) T.f33.g T.f33.F.kp T.f33.b .nil pass0 (pa_cons (pv 1) pa_nil))) (fun _ _ _ _ _ => pg_name (i := 2) sc34.nd rfl (.inl rfl)) (fun _ _ _ _ _ => pts_nil) (fun _ _ _ _ _ => pv 2)))), fun g ws μ k eg h => ?_⟩)
  refine pu_go eg h fun r hd eg => ?_
  obtain ⟨ds, rfl, ht, hl, rfl⟩ := hd
  walk_at "cx"
  refine go_ret (ev_lc2 (by simp) (by simp) (by decide) (Nat.le_of_ble_eq_true rfl) ?_)
  walk_at "go"
  refine ⟨fun d => match d with | .tuple es => es | _ => [], by simp; omega, by rw [eg]; simp, fun d hd μ' => ?_, ?_⟩
  · rw [List.mem_singleton] at hd
    subst hd
    walk_at "go"
    exact ⟨_, ⟨ds, rfl, ht, by omega, rfl⟩, rfl, rfl⟩
  · show dL _ = dL _
    simp
theorem sc52 : FnScope ["stack", "instruction", "low"] ["stack", "instruction"] (defScope (topS 52)) := ⟨rfl, rfl, rfl, by decide +kernel, rfl, by decide +kernel, by decide +kernel⟩
def D52 (ws : List Sl) (r : Sl) : Prop := ∃ (xs : List Str) (x : Ins), ws = [.da (tS xs), .da (insD x)] ∧ xs.length < 80000 ∧ x.need ≤ xs.length ∧ (match x with | .dup i => 1 ≤ i | .swap i => 1 ≤ i | .pop => True) ∧ r = .da (tS (app xs x))
theorem ok52 (T : Tx K mg) : FnOk P w K mg base CX0 1 T.f52.a T.f52.d ["stack", "instruction"] (spG K (pu D52)) := by
  refine fn_go T.f52.F sc52 (fun ws μ k h => by obtain ⟨_, _, ⟨_, _, rfl, _⟩, _⟩ := h; rfl) (fun cdv A outer s H E hr => ⟨_, (pss_cons (ps_if (pt_cmpR op_eq (pe_ix (r := rIx K) ix_seq (pv 1) pe_int (fun _ _ => rfl)) (pe_glob rfl T.mPOP T.cPOP) (nomark _)) (pss_one (ps_ret (pe_slice (r := rSlF K) sl_tupF (pv 0) po_none (po_some (pe_un un_neg pe_int))))) pss_nil)
      (pss_cons (ps_if (pt_cmpR op_eq (pe_ix (r := rIx K) ix_seq (pv 1) pe_int (fun _ _ => rfl)) (pe_glob rfl T.mDUP T.cDUP) (nomark _)) (pss_one (ps_ret (pe_op (r := rCatF K) op_catF (pv 0) (pe_tupF (pa_cons (pe_ix (r := rIx K) ix_seq (pv 0) (pe_un un_neg (pe_ix (r := rIx K) ix_seq (pv 1) pe_int (fun _ _ => rfl))) (fun _ _ => rfl)) pa_nil))))) pss_nil)
      (pss_cons (ps_set (i := 2) sc52.nd rfl (.inl rfl) (pe_op op_sub (pe_op op_sub (pe_callB (r := Evl.rLenS K) call_lenS (by rfl) T.z_len (by decide +kernel) (pa_cons (pv 0) pa_nil)) pe_int) (pe_ix (r := rIx K) ix_seq (pv 1) pe_int (fun _ _ => rfl))))
      (pss_one (ps_ret (pe_op (r := rCatF K) op_catF (pe_op (r := rCatF K) op_catF (pe_op (r := rCatF K) op_catF (pe_slice (r := rSlF K) sl_tupF (pv 0) po_none (po_some (pv 2))) (pe_slice (r := rSlF K) sl_tupF (pv 0) (po_some (pe_un un_neg pe_int)) po_none)) (pe_slice (r := rSlF K) sl_tupF (pv 0) (po_some (pe_op op_add (pv 2) pe_int)) (po_some (pe_un un_neg pe_int)))) (pe_slice (r := rSlF K) sl_tupF (pv 0) (po_some (pv 2)) (po_some (pe_op op_add (pv 2) pe_int))))))))), fun g ws μ k eg h => ?_⟩)
  refine pu_go eg h fun r hd eg => ?_
  obtain ⟨xs, x, rfl, hl, hn, hv, rfl⟩ := hd
  walk_at "cx"
  cases x with
  | pop =>
    walk_at "go"
    refine ⟨fun _ => ?_, fun h => absurd h (by decide +kernel)⟩
    walk_at "go"
    refine os_init ?_
    rfl
  | dup i =>
    have hn' : i ≤ xs.length := hn
    have hv' : 1 ≤ i := hv
    obtain ⟨y, hy⟩ : ∃ y, xs[xs.length - i]? = some y := ⟨_, List.getElem?_eq_getElem (by omega)⟩
    walk_at "go"
    refine ⟨fun h => absurd h (by decide +kernel), fun _ => ?_⟩
    walk_at "go"
    refine ⟨fun _ => ?_, fun h => absurd h (by decide +kernel)⟩
    walk_at "go"
    have hat : atI (xs.map PyData.str) (-(i : Int)) = some (.str y) := by
      unfold atI ixN
      rw [List.length_map, if_neg (by omega), if_pos (by omega), Option.bind_some, List.getElem?_map, show (-(i : Int) + (xs.length : Int)).toNat = xs.length - i by omega, hy]
      rfl
    refine o_ixT hat ?_
    walk_at "go"
    refine o_catS (ts := [y]) (by simp; omega) ?_
    show _ = Sl.da (tS (xs ++ (xs[xs.length - i]?).toList))
    rw [hy]
    rfl
  | swap i =>
    have hn' : i + 1 ≤ xs.length := hn
    have hv' : 1 ≤ i := hv
    walk_at "go"
    refine ⟨fun h => absurd h (by decide +kernel), fun _ => ?_⟩
    walk_at "go"
    refine ⟨fun h => absurd h (by decide +kernel), fun _ => ?_⟩
    walk_at "go"
    have e : (xs.length : Int) - 1 - (i : Int) = ((xs.length - 1 - i : Nat) : Int) := by omega
    refine os_to e ?_
    walk_at "go"
    refine os_tail ?_
    refine o_catS (by rw [List.length_take, List.length_drop]; omega) ?_
    walk_at "go"
    refine os_midN (n := xs.length - 1 - i + 1) (by omega) ?_
    refine o_catS (by rw [List.length_append, List.length_take, List.length_drop, List.length_drop, List.length_take]; omega) ?_
    walk_at "go"
    refine os_one e (by omega) ?_
    refine o_catS (by rw [List.length_append, List.length_append, List.length_take, List.length_drop, List.length_drop, List.length_take, List.length_take, List.length_drop]; omega) ?_
    rfl
end
end De
end
section
set_option Elab.async false
set_option linter.all false
set_option maxRecDepth 100000
set_option maxHeartbeats 2000000
/-! del xs[-1:]; xs.count of texts. -/
namespace De
open PySem PySem.Spec PyProof.Rows L2 PySem.F
section
variable {prog : Program} {w : World} {A : Around} {E : Value → Shared → Prop} {s : Shared}
theorem bounds_last {n : Nat} (h : 0 < n) : sliceBounds (some (-1 : Int)) none none n = (((n - 1 : Nat) : Int), (n : Int), 1) := by
  simp only [sliceBounds, Option.getD_none]
  simp only [show (1 : Int) > 0 by decide, show (-1 : Int) < 0 by decide, if_true]
  congr 1
  omega
theorem sel_last {n : Nat} (f : Value × Nat → Option Value) (hf : ∀ x k, f (x, k) = if k + 1 < n then some x else if k < n then none else some x) : ∀ (l : List Value) (m : Nat), l.length + m = n → (l.zipIdx m).filterMap f = l.take (l.length - 1)
  | [], m, _ => rfl
  | [x], m, h => by
    rw [List.zipIdx_cons, List.zipIdx_nil, List.filterMap_cons, hf, if_neg (by simp at h; omega), if_pos (by simp at h; omega)]
    rfl
  | x :: y :: r, m, h => by
    have ih := sel_last f hf (y :: r) (m + 1) (by simp at h ⊢; omega)
    rw [List.zipIdx_cons, List.filterMap_cons, hf, if_pos (by simp at h; omega), ih]
    simp
set_option maxRecDepth 100000 in
theorem delItem_last {l sl : Addr} {items : Array Value} {n : Nat} {vl vu : Value} {Q : Unit → Shared → Prop}
    (e : s.heap.get? l = some { cls := .type "list", data := .seq items n }) (hs : s.heap.IsSliceOf sl vl vu .none) (pl : IsPart vl (some (-1 : Int))) (pu : IsPart vu none) (h0 : 0 < items.size)
    (hsz : items.size ≤ sizeLine) (h : ∀ f : Array Value → Array Value, f items = (items.toList.take (items.size - 1)).toArray → Q () { s with heap := s.heap.update l (Obj.mapSeq f) }) :
    wpAny (model prog w) A (delItem (.ref l) (.ref sl)) Q E s := by
  have hl : s.heap.IsList l items := PySem.IsL.isList e
  obtain ⟨os, hos, hcs, hds⟩ := id hs
  have hTs : s.TypeIs (.ref sl) "slice" := ⟨os, hos, hcs⟩
  have hstep : ¬ ((rawPart none == rawInt 0) = true) := Bool.false_ne_true
  refine wpAny_delItem_slot hl.typeIs (by decide) slot_list_delitem ?_
  refine wpAny_call_entry slot_list_delitem hl.typeIs entry_list_delitem ?_ (args_list_delitem_2 _ _)
  show wpAny _ _ (Builtin.List.listSubscript? (.ref sl) >>= _) _ _ s
  refine wpAny_bind ?_
  unfold Builtin.List.listSubscript?
  refine wpAny_bind (wpAny_specialOf hTs slice_no_index ?_)
  simp only [Option.isNone_none, if_true]
  refine wpAny_pure ?_
  show wpAny _ _ (typeOf (.ref sl) >>= _) _ _ s
  refine wpAny_bind (wpAny_typeOf hTs ?_)
  first
    | rw [if_neg (by decide)]
    | refine PySem.W.KFB.if_not (by decide) ?_
  rw [listSliceParts_eq]
  refine wpAny_bind (wpAny_bind (wpAny_field hos hds (x := .none) rfl (wpAny_bind (wpAny_listPart .none ?_))))
  rw [if_neg hstep]
  refine wpAny_bind (wpAny_field hos hds (x := vl) rfl (wpAny_bind (wpAny_listPart pl ?_)))
  refine wpAny_bind (wpAny_field hos hds (x := vu) rfl (wpAny_bind (wpAny_listPart pu (wpAny_pure ?_))))
  unfold Builtin.List.listItems
  refine wpAny_bind (wpAny_bind (wpAny_seqItems e rfl (wpAny_pure ?_)))
  refine wpAny_bind (wpAny_of_eq ((sliceIndices_raw (some (-1 : Int)) none none items.size (by simp)).trans (congrArg (pure : Int × Int × Int → Sem (Int × Int × Int)) (bounds_last h0))) ?_)
  refine wpAny_bind (wpAny_rule ?_)
  refine wpAny_bind (wpAny_updateSeq (hz := hsz) (_hz' := ?_) e rfl ?_)
  rotate_left
  · rw [List.size_toArray]
    refine Nat.le_succ_of_le (Nat.le_trans (List.length_filterMap_le _ _) ?_)
    rw [List.length_zipIdx, Array.length_toList]
    exact hsz
  refine wpAny_bind (wpAny_letGo ?_)
  first
    | refine wpAny_bind (wpAny_pure (wpAny_pure ⟨.none, rfl, h _ ?_⟩))
    | refine wpAny_pure ⟨.none, rfl, h _ ?_⟩
  show (List.toArray _) = _
  congr 1
  refine sel_last (n := items.size) _ (fun x k => ?_) items.toList 0 (by rw [Array.length_toList]; omega)
  show (if (if (1 : Int) > 0 then (decide (((items.size - 1 : Nat) : Int) ≤ (k : Int)) && decide ((k : Int) < (items.size : Int)) && (((k : Int) - ((items.size - 1 : Nat) : Int)) % 1 == 0)) else _) = true then none else some x) = _
  have hmod : (((k : Int) - ((items.size - 1 : Nat) : Int)) % 1 == 0) = true := by
    rw [Int.emod_one]; rfl
  rw [if_pos (show (1 : Int) > 0 by decide)]
  rw [hmod, Bool.and_true]
  by_cases c1 : k + 1 < items.size
  · rw [if_pos c1, decide_eq_false (by omega), Bool.false_and, if_neg (by decide)]
  · rw [if_neg c1, decide_eq_true (by omega), Bool.true_and]
    by_cases c2 : k < items.size
    · rw [if_pos c2, decide_eq_true (by omega), if_pos rfl]
    · rw [if_neg c2, decide_eq_false (by omega), if_neg (by decide)]
end
section
variable {X : Cx} {to tl th : TO}
/-- del xs[-1:] -/
def tDelS (to : TE) (tl th : TO) : TS := fun D σ H => to σ H fun x H1 => tl σ H1 fun lo H2 => th σ H2 fun hi H3 => ∃ (l : Addr) (xs : List V), x = .ref l ∧ lo = some (-1) ∧ hi = none ∧ H3 l = some (.lst xs) ∧ 0 < xs.length ∧ D.nx σ (upd H3 l (.lst (xs.take (xs.length - 1))))
theorem ps_delS {o : Expr} {lo hi : Option Expr} {tpos p2 pos : Pos} {te : TE} (ho : PE X o te) (hl : PO X lo tl) (hu : PO X hi th) : PS X (.Delete [.Subscript o (.Slice lo hi none p2) tpos] pos) (tDelS te tl th) := by
  refine ⟨fun pins s σ H D I h => ?_⟩
  refine wpAny_Delete (wpAny_deleteEach_cons (wpAny_delete_Subscript (thn (ho.run pins s σ H _ I h) fun u s1 ⟨x, H1, I1, rx, q1⟩ => ?_)))
  refine wpAny_Slice (thn (hl.run pins s1 σ H1 _ I1 q1) fun vl s2 ⟨l, H2, I2, pl, q2⟩ => thn (hu.run pins s2 σ H2 _ I2 q2) fun vu s3 ⟨u', H3, I3, pu, q3⟩ => ?_)
  rw [evalPart_none]
  refine wpAny_pure ?_
  have I4 : Inv X pins σ H3 { s3 with heap := s3.heap.push { cls := .type "slice", data := .fields #[vl, vu, .none] } } := I3.kept (t' := s3.toks) fun b ob q => Heap.get?_push_of_some _ q
  obtain ⟨l, xs, ex, e1, e2, hH, h0, q⟩ := q3
  subst ex e1 e2
  cases (show u = Value.ref l from rx)
  obtain ⟨z, its, n, r, hlen, e⟩ := I4.lstM hH
  refine delItem_last e (Heap.IsSliceOf.new ..) pl pu (by rw [List.size_toArray]; omega) (by rw [List.size_toArray]; omega) fun f hf => wpAny_deleteEach_nil ⟨σ, _, ?_, q⟩
  refine I4.lset (its' := its.take (xs.length - 1)) (t' := s3.toks) hH e ?_ (r.take _) ?_
  · rw [hf]
    simp [hlen]
  · rw [List.length_take]; omega
end
end De
end
section
set_option Elab.async false
set_option linter.all false
set_option maxRecDepth 100000
set_option maxHeartbeats 2000000
/-! The site: its object, its lists; the rules over them. -/
namespace De
open PySem PySem.Spec PyProof.Rows L2
/-! ### xs.count(text) -/
def eqs (k : Str) : Value → Bool
  | .str s _ => s.cps.toList == k.cps.toList
  | _ => false
theorem eqs_gives {k : Str} {t : Tok} : ∀ {us : List Value} {ss : List Str}, StrsAre us ss → ∀ y ∈ us, MeetsSeq.EqGives y (.str k t) (eqs k y)
  | _, _, .nil => fun y hy => by cases hy
  | _, _, .cons n t' h => fun y hy => by
    rcases List.mem_cons.mp hy with e | e
    · rw [e]
      exact SeqRoads2.EqGives.str n k t' t
    · exact eqs_gives h y e
theorem eqs_count {k : Str} : ∀ {us : List Value} {ss : List Str}, StrsAre us ss → us.countP (eqs k) = ss.count k
  | _, _, .nil => rfl
  | _, _, .cons n t h => by
    have ih := eqs_count (k := k) h
    rw [List.countP_cons, List.count_cons, ih]
    congr 1
    show (if (n.cps.toList == k.cps.toList) = true then 1 else 0) = _
    have e : (n.cps.toList == k.cps.toList) = (n == k) := by
      rw [Bool.eq_iff_iff, beq_iff_eq, beq_iff_eq]
      exact ⟨str_ext, fun e => by rw [e]⟩
    rw [e]
def rCntS (K : PySem.W.Frag) : V → List V → Hp → VK → Prop := fun x xs H Q => ∃ (p : Addr) (ss : List Str) (k : Str), x = .ref p ∧ xs = [.str k] ∧ SqL K H p (ss.map V.str) ∧ Q (.int (ss.count k : Nat)) H
theorem mt_lcountS {X : Cx} : MtR X "list.count" (rCntS X.K) := by
  intro pins s σ H x xs v us Q I rx rxs h
  obtain ⟨p, ss, k, rfl, rfl, hs, q⟩ := h
  cases rx
  obtain ⟨u, rfl, ru⟩ := rxs.one
  obtain ⟨t, rfl⟩ := ru
  obtain ⟨its, rv, ⟨⟨cls, dd, data, sl⟩, n, ho, hc, hdn, hd⟩, hlen⟩ := I.list hs
  simp only at hc hd
  subst hc hd
  have hi := Vals.strs rv
  refine call_meets PySem.F.slot_list_count ⟨_, ho, rfl⟩ PySem.F.entry_list_count (PySem.F.args_list_count_2 _ _)
    (SeqAt.list_countAt p its.toArray n dd sl (.str k t) (eqs k)) ⟨ho, fun y hy => (eqs_gives hi y (by simpa using hy)).at _ _, ?_⟩
  have ec : its.toArray.toList.countP (eqs k) = ss.count k := eqs_count hi
  refine ⟨.int (ss.count k : Nat), H, I.tok _, ⟨s.toks, ?_⟩, q⟩
  show Value.int ((its.toArray.toList.countP (eqs k) : Nat) : Int) s.toks = Value.int ((ss.count k : Nat) : Int) s.toks
  rw [ec]
theorem pe_bmK {X : Cx} {K : PySem.W.Frag} {o e : Expr} {es : List Expr} {to : TE} {t : TA} {name : Str} {apos cpos : Pos} {T id : String} {r : V → List V → Hp → VK → Prop} (hK : X.K = K) (pa : PlainAttrs T) (slot : Slot T name id) (hty : typeOf (.builtin id) = pure (.type "method_descriptor")) (hm : MtR X id r) (ho : PE X o to) (ha : PA X (e :: es) t)
    (hbase : attributeBase o name X.env (eval o X.env) = eval o X.env := by rfl)
    (hfew : ((backTo cpos (starEach (e :: es) X.env)).all (fun x => !x.1) && (backToKw cpos (keywordEach [] X.env)).all (fun x => x.1.isSome)
      && decide ((e :: es).length + ([] : List Keyword).length + (if ([] : List Keyword).isEmpty then 0 else 1) < 30)) = true := by rfl)
    (hline : (apos.endLine == cpos.line) = true := by rfl) (hs : starEach (e :: es) X.env = (false, eval e X.env) :: starEach es X.env := by rfl) (hplain : (backTo cpos (starEach es X.env)).any (·.1) = false := by rfl) :
    PE X (.Call (.Attribute o name apos) (e :: es) [] cpos) (tBM K T r to t) := by
  subst hK; exact pe_bm pa slot hty hm ho ha hbase hfew hline hs hplain

/-! ### the site -/
def flds (c : Addr) (r : Nat) (m : Addr) : List (Str × V) := [("cells", .ref c), ("reach", .int (r : Nat)), ("made", .ref m)]
theorem ne_rc : (("reach" : Str) == "cells") = false := by decide +kernel
theorem ne_mc : (("made" : Str) == "cells") = false := by decide +kernel
theorem ne_mr : (("made" : Str) == "reach") = false := by decide +kernel
theorem lk_self (f : Str) (v : V) (fs : List (Str × V)) : ((f, v) :: fs).lookup f = some v := by simp [List.lookup]
theorem lk_ne {f g : Str} (h : (f == g) = false) (v : V) (fs : List (Str × V)) : ((g, v) :: fs).lookup f = fs.lookup f := by simp [List.lookup, h]
theorem lk_cells (c : Addr) (r : Nat) (m : Addr) : (flds c r m).lookup ("cells" : Str) = some (.ref c) := by unfold flds; rw [lk_self]
theorem lk_reach (c : Addr) (r : Nat) (m : Addr) : (flds c r m).lookup ("reach" : Str) = some (.int (r : Nat)) := by unfold flds; rw [lk_ne ne_rc, lk_self]
theorem lk_made (c : Addr) (r : Nat) (m : Addr) : (flds c r m).lookup ("made" : Str) = some (.ref m) := by unfold flds; rw [lk_ne ne_mc, lk_ne ne_mr, lk_self]
theorem lk_no (c : Addr) (r : Nat) (m : Addr) {f : Str} (h1 : (f == ("cells" : Str)) = false) (h2 : (f == ("reach" : Str)) = false) (h3 : (f == ("made" : Str)) = false) : (flds c r m).lookup f = none := by
  unfold flds
  rw [lk_ne h1, lk_ne h2, lk_ne h3]; rfl
@[reducible] def siteM (C p dx c m : Addr) (xs : List Str) (r : Nat) (L : List Ins) : Mus := [(p, .obj (.ins C dx (flds c r m))), (c, .lis (xs.map dS)), (m, .lis ((L.map insD).map Sl.da))]
/-- what a def over a site promises: before, after -/
abbrev SPre := List Sl → List Str → Nat → List Ins → Prop
abbrev SPost := List Sl → List Str → Nat → List Ins → Sl → List Str → List Ins → Prop
def stS (C : Addr) (Pre : SPre) (Post : SPost) : Spec := fun ws μ k => ∃ p dx c m xs r L args, ws = .va (.ref p) :: args ∧ μ = siteM C p dx c m xs r L ∧ Pre args xs r L ∧ ∀ w xs' L', Post args xs r L w xs' L' → k w (siteM C p dx c m xs' r L')
def stAE (C p dx c m : Addr) (Post : SPost) (args : List Sl) (xs : List Str) (r : Nat) (L : List Ins) : AE :=
  { nx := fun _ μ' => ∃ xs' L' ext, Post args xs r L dN xs' L' ∧ μ' = siteM C p dx c m xs' r L' ++ ext, rt := fun w μ' => ∃ xs' L' ext, Post args xs r L w xs' L' ∧ μ' = siteM C p dx c m xs' r L' ++ ext }
section
variable {K : PySem.W.Frag} {g : Gr} {δ : List Sl} {μ : Mus} {k : Sl → Mus → Prop} {F : AE} {te ta : TE} {tas : TA} {C p dx c m : Addr} {xs : List Str} {r : Nat} {L : List Ins} {rest : Mus} {E : XK} {Pre : SPre} {Post : SPost}
theorem st_go {N : List Str} {t : TS} {ws : List Sl} (eg : g.ms = μ.map (·.1)) (h : stS C Pre Post ws μ k)
    (b : ∀ p dx c m xs r L args, ws = .va (.ref p) :: args → Pre args xs r L → g.ms = [p, c, m] → Go K g (slots0 N (.va (.ref p) :: args)) (siteM C p dx c m xs r L ++ []) t (stAE C p dx c m Post args xs r L)) : Go K g (slots0 N ws) μ t (endAE g k) := by
  obtain ⟨p, dx, c, m, xs, r, L, args, rfl, rfl, hp, hk⟩ := h
  have eg' : g.ms = [p, c, m] := eg
  refine (b p dx c m xs r L args rfl hp eg').imp (fun _ m' e => ?_) (fun w m' e => ?_) (fun _ _ h => h.elim) (fun _ _ h => h.elim)
  · obtain ⟨xs', L', ext, h1, rfl⟩ := e
    exact ⟨_, [], List.sublist_append_left _ _, by rw [eg']; rfl, hk _ _ _ h1⟩
  · obtain ⟨xs', L', ext, h1, rfl⟩ := e
    exact ⟨_, [], List.sublist_append_left _ _, by rw [eg']; rfl, hk _ _ _ h1⟩
theorem CallK.st {args : List Sl} (h : Pre args xs r L ∧ ∀ w xs' L', Post args xs r L w xs' L' → k w (siteM C p dx c m xs' r L' ++ rest)) : CallK (stS C Pre Post) (.va (.ref p) :: args) (siteM C p dx c m xs r L ++ rest) k := by
  refine ⟨[0, 1, 2], siteM C p dx c m xs r L, rfl, by decide, fun w μ' => ∃ xs' L', Post args xs r L w xs' L' ∧ μ' = siteM C p dx c m xs' r L', ⟨p, dx, c, m, xs, r, L, args, rfl, rfl, h.1, fun w xs' L' hp => ⟨xs', L', hp, rfl⟩⟩, fun w μf' news _ ⟨xs', L', hp, e⟩ => ?_⟩
  subst e
  show k w (siteM C p dx c m xs' r L' ++ rest ++ [])
  rw [List.append_nil]
  exact h.2 _ _ _ hp
/-- a call f(site, ..) -/
theorem ev_callS (h : EvA K g δ μ tas fun ws μ1 => ∃ p dx c m xs r L rest args, ws = .va (.ref p) :: args ∧ μ1 = siteM C p dx c m xs r L ++ rest ∧ Pre args xs r L ∧ ∀ w xs' L', Post args xs r L w xs' L' → k w (siteM C p dx c m xs' r L' ++ rest)) : Ev K g δ μ (tCall (spG K (stS C Pre Post)) [] E tas) k :=
  ev_call fun σ H B cc Q hq => h σ H B cc Q fun ws μ1 vs H1 B1 ⟨p, dx, c, m, xs, r, L, rest, args, e1, e2, x⟩ => hq ws μ1 vs H1 B1 (by subst e1 e2; exact .st x)
/-- site.f(..) -/
theorem ev_methS {f : Str} (h1 : (f == ("cells" : Str)) = false) (h2 : (f == ("reach" : Str)) = false) (h3 : (f == ("made" : Str)) = false) (h : Ev K g δ μ ta fun w μ1 => ∃ p dx c m xs r L rest, w = .va (.ref p) ∧ μ1 = siteM C p dx c m xs r L ++ rest ∧ EvA K g δ μ1 tas fun args μ2 => ∃ xs L rest, μ2 = siteM C p dx c m xs r L ++ rest ∧ Pre args xs r L ∧ ∀ w xs' L', Post args xs r L w xs' L' → k w (siteM C p dx c m xs' r L' ++ rest)) : Ev K g δ μ (tMeth C f (spG K (stS C Pre Post)) [] E ta tas) k :=
  ev_meth fun σ H B cc Q hq => h σ H B cc Q fun w μ1 v H1 B1 ⟨p, dx, c, m, xs, r, L, rest, e1, e2, x⟩ => hq w μ1 v H1 B1 (by
    subst e1 e2
    refine ⟨p, 0, dx, _, rfl, rfl, lk_no c r m h1 h2 h3, fun σ H B cc Q hq => x σ H B cc Q fun args μ2 vs H1 B1 ⟨xs2, L2, rest2, e, y⟩ => hq args μ2 vs H1 B1 (by subst e; exact .st y)⟩)
/-- site.height -/
theorem ev_propS (h : Ev K g δ μ ta fun w μ1 => ∃ p dx c m xs r L rest, w = .va (.ref p) ∧ μ1 = siteM C p dx c m xs r L ++ rest ∧ Pre [] xs r L ∧ ∀ w xs' L', Post [] xs r L w xs' L' → k w (siteM C p dx c m xs' r L' ++ rest)) : Ev K g δ μ (tProp C (spG K (stS C Pre Post)) [] E ta) k :=
  ev_prop fun σ H B cc Q hq => h σ H B cc Q fun w μ1 v H1 B1 ⟨p, dx, c, m, xs, r, L, rest, e1, e2, x⟩ => hq w μ1 v H1 B1 (by subst e1 e2; exact ⟨p, 0, dx, _, rfl, rfl, .st x⟩)
/-- self.cells, self.reach, self.made -/
theorem ev_cells (hc : Cls K C) (ha : NoAttr K C "cells") (h : Ev K g δ μ ta fun w μ1 => ∃ p dx c m xs r L rest, w = .va (.ref p) ∧ μ1 = siteM C p dx c m xs r L ++ rest ∧ k (.va (.ref c)) μ1) : Ev K g δ μ (tFld K ta "cells") k :=
  ev_fld fun σ H B cc Q hq => h σ H B cc Q fun w μ1 v H1 B1 ⟨p, dx, c, m, xs, r, L, rest, e1, e2, x⟩ => hq w μ1 v H1 B1 (by subst e1 e2; exact ⟨p, C, 0, dx, _, _, rfl, rfl, hc, ha, lk_cells c r m, x⟩)
theorem ev_reach (hc : Cls K C) (ha : NoAttr K C "reach") (h : Ev K g δ μ ta fun w μ1 => ∃ p dx c m xs r L rest, w = .va (.ref p) ∧ μ1 = siteM C p dx c m xs r L ++ rest ∧ k (dI r) μ1) : Ev K g δ μ (tFld K ta "reach") k :=
  ev_fld fun σ H B cc Q hq => h σ H B cc Q fun w μ1 v H1 B1 ⟨p, dx, c, m, xs, r, L, rest, e1, e2, x⟩ => hq w μ1 v H1 B1 (by subst e1 e2; exact ⟨p, C, 0, dx, _, _, rfl, rfl, hc, ha, lk_reach c r m, x⟩)
theorem ev_made (hc : Cls K C) (ha : NoAttr K C "made") (h : Ev K g δ μ ta fun w μ1 => ∃ p dx c m xs r L rest, w = .va (.ref p) ∧ μ1 = siteM C p dx c m xs r L ++ rest ∧ k (.va (.ref m)) μ1) : Ev K g δ μ (tFld K ta "made") k :=
  ev_fld fun σ H B cc Q hq => h σ H B cc Q fun w μ1 v H1 B1 ⟨p, dx, c, m, xs, r, L, rest, e1, e2, x⟩ => hq w μ1 v H1 B1 (by subst e1 e2; exact ⟨p, C, 0, dx, _, _, rfl, rfl, hc, ha, lk_made c r m, x⟩)
/-! the cells -/
theorem o_ixC {i : Int} {n : Nat} {x : Str} (e : i = (n : Int)) (h : xs[n]? = some x) (q : k (dS x) (siteM C p dx c m xs r L ++ rest)) : Op2 K g δ (rIx K) (.va (.ref c)) (dI i) (siteM C p dx c m xs r L ++ rest) k :=
  o_ixM (j := 1) rfl (atI_ofNat e (by rw [List.getElem?_map, h]; rfl)) q
theorem map_dS (l : List Str) : l.map dS = (l.map PyData.str).map Sl.da := by rw [List.map_map]; rfl
theorem os_cells {i : Int} {n : Nat} (e : i = (n : Int)) (q : k (.da (lS (xs.drop n))) (siteM C p dx c m xs r L ++ rest)) : OpSl K g δ (rSlL K) (.va (.ref c)) (some i) none (siteM C p dx c m xs r L ++ rest) k :=
  os_lstM (ds := xs.map PyData.str) (j := 1) (by rw [← map_dS]; rfl) (by rw [e, cut_map, cut_from]; exact q)
theorem oc_len_c (q : k (dI xs.length) (siteM C p dx c m xs r L ++ rest)) : OpC K g δ (Evl.rLenS K) [.va (.ref c)] (siteM C p dx c m xs r L ++ rest) k := oc_len_m (j := 1) rfl (by rw [List.length_map]; exact q)
/-! methods of lists -/
theorem ev_bm {r : V → List V → Hp → VK → Prop} (h : Ev K g δ μ ta fun w μ1 => (∀ σ H B, Cta K g δ μ1 σ H B → ∀ v, Rl K B v w → tyV K "list" v H) ∧ EvA K g δ μ1 tas fun ws μ2 => OpM K g δ r w ws μ2 k) : Ev K g δ μ (tBM K "list" r ta tas) k := fun σ H B cc Q hq =>
  h σ H B cc _ fun w μ1 v H1 B1 ⟨h1, h2⟩ c1 s1 r1 => ⟨h1 σ H1 B1 c1 v r1, h2 σ H1 B1 c1 _ fun ws μ2 vs H2 B2 h3 c2 s2 r2 => h3 σ H2 B2 c2 v vs (rl_same s2 r1) r2 Q (hq.mono (s1.trans s2))⟩
theorem ty_l {ds : List PyData} {μ1 : Mus} : ∀ σ H B, Cta K g δ μ1 σ H B → ∀ v, Rl K B v (dL ds) → tyV K "list" v H := fun σ H B cc v rv => by
  obtain ⟨a, ys, rfl, h1, h2⟩ := dp_lst rv
  exact .inl ⟨rfl, ys, same_l cc.bh h1⟩
theorem ty_m {μ1 : Mus} {j : Nat} {a : Addr} {ws : List Sl} (h : μ1[j]? = some (a, .lis ws)) : ∀ σ H B, Cta K g δ μ1 σ H B → ∀ v, Rl K B v (.va (.ref a)) → tyV K "list" v H := fun σ H B cc v rv => by
  cases (show v = _ from rv)
  obtain ⟨ys, h1, h2⟩ := cc.lis h
  exact .inl ⟨rfl, ys, SqL.of h1⟩
theorem dps_str {B : Hp} : ∀ {vs : List V} {ss : List Str}, DpAll K B vs (ss.map PyData.str) → vs = ss.map V.str
  | _, [], .nil => rfl
  | _, b :: bs, .cons h a => by cases h; rw [dps_str a]; rfl
theorem om_count {ss : List Str} {s : Str} (q : k (dI (ss.count s)) μ) : OpM K g δ (rCntS K) (.da (lS ss)) [dS s] μ k := fun σ H B cc v vs r1 r2 Q hq => by
  obtain ⟨a, ys, rfl, h1, h2⟩ := dp_lst r1
  obtain ⟨u, rfl, r3⟩ := rl1 r2
  cases dps_str h2
  exact ⟨a, ss, s, rfl, by rw [dp_str r3], same_l cc.bh h1, hq.go cc q (.int _)⟩
theorem om_append {j : Nat} {a : Addr} {ws : List Sl} {w : Sl} (h : μ[j]? = some (a, .lis ws)) (hl : ws.length < 100000) (q : k dN (μ.set j (a, .lis (ws ++ [w])))) : OpM K g δ rAppend (.va (.ref a)) [w] μ k := fun σ H B cc v vs r1 r2 Q hq => by
  cases (show v = _ from r1)
  obtain ⟨u, rfl, r3⟩ := rl1 r2
  obtain ⟨ys, h1, h2⟩ := cc.lis h
  refine ⟨a, ys, u, rfl, rfl, h1, sz_lt (by rw [h2.len]; exact hl), ?_⟩
  exact hq _ _ _ _ _ q (cc.write h (o := .lst (ys ++ [u])) (m' := .lis (ws ++ [w])) ⟨_, upd_same, h2.snoc r3⟩) Same.rfl' .non
end
end De
end
section
set_option Elab.async false
set_option linter.all false
set_option maxRecDepth 100000
set_option maxHeartbeats 2000000
/-! Stores; the site's own rules. -/
namespace De
open PySem PySem.Spec PyProof.Rows L2
section
variable {K : PySem.W.Frag} {g : Gr} {δ : List Sl} {μ : Mus} {k : Sl → Mus → Prop} {F : AE} {te ta to ti : TE} {tas : TA} {C p dx c m : Addr} {xs : List Str} {r : Nat} {L : List Ins} {rest : Mus}
/-- a target -/
def EvG (K : PySem.W.Frag) (g : Gr) (δ : List Sl) (μ : Mus) (tg : TG) (w : Sl) (kn : List Sl → Mus → Prop) : Prop :=
  ∀ σ H B, Cta K g δ μ σ H B → ∀ v, Rl K B v w → ∀ Q : L2.St → Hp → Prop, (∀ δ' μ' σ' H' B', kn δ' μ' → Cta K g δ' μ' σ' H' B' → Same B B' → Q σ' H') → tg v σ H Q
theorem go_asg {tg : TG} (h : Ev K g δ μ te fun w μ1 => EvG K g δ μ1 tg w F.nx) : Go K g δ μ (tAsg te tg) F := fun σ H B cc D f =>
  h σ H B cc _ fun w μ1 v H1 B1 h1 c1 s1 r1 => h1 σ H1 B1 c1 v r1 _ fun δ' μ' σ' H' B' h2 c2 s2 => f.nx _ _ _ _ _ h2 c2 (s1.trans s2)
theorem eg_name {i : Nat} {w : Sl} {kn : List Sl → Mus → Prop} (h : kn (δ.set i w) μ) : EvG K g δ μ (gName i) w kn := fun σ H B cc v rv Q hq => hq _ _ _ _ _ h (cc.store rv) Same.rfl'
theorem eg_sub {w : Sl} {kn : List Sl → Mus → Prop} (h : Ev K g δ μ to fun w1 μ1 => Ev K g δ μ1 ti fun w2 μ2 => ∃ (a : Addr) (j : Nat) (ws : List Sl) (i : Int) (n : Nat), w1 = .va (.ref a) ∧ w2 = dI i ∧ μ2[j]? = some (a, .lis ws) ∧ ixN ws.length i = some n ∧ kn δ (μ2.set j (a, .lis (ws.set n w)))) : EvG K g δ μ (gSub to ti rSetL) w kn := fun σ H B cc v rv Q hq =>
  h σ H B cc _ fun w1 μ1 v1 H1 B1 h1 c1 s1 r1 => h1 σ H1 B1 c1 _ fun w2 μ2 v2 H2 B2 ⟨a, j, ws, i, n, e1, e2, hj, hi, hk⟩ c2 s2 r2 => by
    subst e1 e2
    cases (show v1 = _ from r1)
    obtain ⟨ys, h3, h4⟩ := c2.lis hj
    refine ⟨a, ys, i, n, rfl, dp_int r2, h3, by rw [h4.len]; exact hi, ?_⟩
    exact hq _ _ _ _ _ hk (c2.write hj (o := .lst (ys.set n v)) (m' := .lis (ws.set n w)) ⟨_, upd_same, h4.set (rl_same (s1.trans s2) rv)⟩) (s1.trans s2)
theorem eg_tup2 {t1 t2 : TG} {d e : PyData} {kn : List Sl → Mus → Prop} (h : EvG K g δ μ t1 (.da d) fun δ1 μ1 => EvG K g δ1 μ1 t2 (.da e) kn) : EvG K g δ μ (gTup K 2 (gCons t1 (gCons t2 gNil))) (dT [d, e]) kn := fun σ H B cc v rv Q hq => by
  obtain ⟨a, ys, rfl, h1, h2⟩ := dp_tup rv
  cases h2 with
  | cons x1 h2 =>
    cases h2 with
    | cons x2 h2 =>
      cases h2
      refine ⟨a, _, rfl, same_t cc.bh h1, rfl, _, _, rfl, ?_⟩
      refine h σ H B cc _ x1 _ fun δ1 μ1 σ1 H1 B1 h3 c1 s1 => ⟨_, _, rfl, ?_⟩
      exact h3 σ1 H1 B1 c1 _ (dp_same s1 x2) _ fun δ2 μ2 σ2 H2 B2 h4 c2 s2 => ⟨rfl, hq _ _ _ _ _ h4 c2 (s1.trans s2)⟩
theorem ixN_of {n : Nat} {i : Int} {j : Nat} (e : i = (j : Int)) (h : j < n) : ixN n i = some j := by rw [e]; exact Evl.ixN_nat h
/-- self.cells[i] = text -/
theorem eg_cell {s : Str} {kn : List Sl → Mus → Prop} (h : Ev K g δ μ to fun w1 μ1 => Ev K g δ μ1 ti fun w2 μ2 => ∃ p dx c m xs r L rest i n, w1 = .va (.ref c) ∧ w2 = dI i ∧ μ2 = siteM C p dx c m xs r L ++ rest ∧ i = ((n : Nat) : Int) ∧ n < xs.length ∧ kn δ (siteM C p dx c m (xs.set n s) r L ++ rest)) : EvG K g δ μ (gSub to ti rSetL) (dS s) kn :=
  eg_sub fun σ H B cc Q hq => h σ H B cc Q fun w1 μ1 v1 H1 B1 h1 => hq w1 μ1 v1 H1 B1 fun σ H B cc Q hq => h1 σ H B cc Q fun w2 μ2 v2 H2 B2 ⟨p, dx, c, m, xs, r, L, rest, i, n, e1, e2, e3, e4, e5, hk⟩ => hq w2 μ2 v2 H2 B2 (by
    subst e3
    refine ⟨c, 1, xs.map dS, i, n, e1, e2, rfl, ixN_of e4 (by rw [List.length_map]; exact e5), ?_⟩
    have : (xs.map dS).set n (dS s) = (xs.set n s).map dS := by rw [List.map_set]
    rw [this]; exact hk)
theorem om_made {x : Ins} (hl : L.length < 90000) (q : k dN (siteM C p dx c m xs r (L ++ [x]) ++ rest)) : OpM K g δ rAppend (.va (.ref m)) [.da (insD x)] (siteM C p dx c m xs r L ++ rest) k :=
  om_append (j := 2) rfl (by rw [List.length_map, List.length_map]; omega) (by
    have : (L.map insD).map Sl.da ++ [.da (insD x)] = ((L ++ [x]).map insD).map Sl.da := by rw [List.map_append, List.map_append]; rfl
    rw [this]; exact q)
theorem om_cells {s : Str} (hl : xs.length < 90000) (q : k dN (siteM C p dx c m (xs ++ [s]) r L ++ rest)) : OpM K g δ rAppend (.va (.ref c)) [dS s] (siteM C p dx c m xs r L ++ rest) k :=
  om_append (j := 1) rfl (by rw [List.length_map]; omega) (by
    have : xs.map dS ++ [dS s] = (xs ++ [s]).map dS := by rw [List.map_append]; rfl
    rw [this]; exact q)
/-- self.m.append(..) -/
theorem ev_appC (h : Ev K g δ μ ta fun w μ1 => ∃ p dx c m xs r L rest, w = .va (.ref c) ∧ μ1 = siteM C p dx c m xs r L ++ rest ∧ EvA K g δ μ1 tas fun ws μ2 => OpM K g δ rAppend w ws μ2 k) : Ev K g δ μ (tBM K "list" rAppend ta tas) k :=
  ev_bm fun σ H B cc Q hq => h σ H B cc Q fun w μ1 v H1 B1 ⟨p, dx, c, m, xs, r, L, rest, e1, e2, x⟩ => hq w μ1 v H1 B1 ⟨by subst e1 e2; exact ty_m (j := 1) rfl, x⟩
theorem ev_appM (h : Ev K g δ μ ta fun w μ1 => ∃ p dx c m xs r L rest, w = .va (.ref m) ∧ μ1 = siteM C p dx c m xs r L ++ rest ∧ EvA K g δ μ1 tas fun ws μ2 => OpM K g δ rAppend w ws μ2 k) : Ev K g δ μ (tBM K "list" rAppend ta tas) k :=
  ev_bm fun σ H B cc Q hq => h σ H B cc Q fun w μ1 v H1 B1 ⟨p, dx, c, m, xs, r, L, rest, e1, e2, x⟩ => hq w μ1 v H1 B1 ⟨by subst e1 e2; exact ty_m (j := 2) rfl, x⟩
theorem ev_count (h : Ev K g δ μ ta fun w μ1 => ∃ ss, w = .da (lS ss) ∧ EvA K g δ μ1 tas fun ws μ2 => ∃ s, ws = [dS s] ∧ k (dI (ss.count s)) μ2) : Ev K g δ μ (tBM K "list" (rCntS K) ta tas) k :=
  ev_bm fun σ H B cc Q hq => h σ H B cc Q fun w μ1 v H1 B1 ⟨ss, e1, x⟩ => hq w μ1 v H1 B1 ⟨by subst e1; exact ty_l, fun σ H B cc Q hq => x σ H B cc Q fun ws μ2 vs H2 B2 ⟨s, e2, y⟩ => hq ws μ2 vs H2 B2 (by subst e1 e2; exact om_count y)⟩
/-- del self.cells[-1:] -/
theorem go_delS {tl th : TO} (h : Ev K g δ μ to fun w μ1 => EvO K g δ μ1 tl fun lo μ2 => EvO K g δ μ2 th fun hi μ3 => ∃ p dx c m xs r L rest, w = .va (.ref c) ∧ lo = some (-1) ∧ hi = none ∧ μ3 = siteM C p dx c m xs r L ++ rest ∧ 0 < xs.length ∧ F.nx δ (siteM C p dx c m (xs.take (xs.length - 1)) r L ++ rest)) : Go K g δ μ (tDelS to tl th) F := fun σ H B cc D f =>
  h σ H B cc _ fun w μ1 v H1 B1 h1 c1 s1 r1 => h1 σ H1 B1 c1 _ fun lo μ2 H2 B2 h2 c2 s2 => h2 σ H2 B2 c2 _ fun hi μ3 H3 B3 ⟨p, dx, c, m, xs, r, L, rest, e1, e2, e3, e4, h0, hk⟩ c3 s3 => by
    subst e1 e2 e3 e4
    cases (show v = _ from r1)
    obtain ⟨ys, h3, h4⟩ := c3.lis (j := 1) (a := c) (ws := xs.map dS) rfl
    have hlen := h4.len
    rw [List.length_map] at hlen
    refine ⟨c, ys, rfl, rfl, rfl, h3, by omega, ?_⟩
    have h5 : ∀ (n : Nat) {vs : List V} {ws : List Sl}, RlAll K B3 vs ws → RlAll K B3 (vs.take n) (ws.take n) := fun n vs ws a => by
      induction a generalizing n with
      | nil => rw [List.take_nil, List.take_nil]; exact .nil
      | cons hh _ ih =>
        cases n with
        | zero => exact .nil
        | succ n => exact .cons hh (ih n)
    have c4 := c3.write (j := 1) (a := c) (m := .lis (xs.map dS)) rfl (o := .lst (ys.take (ys.length - 1))) (m' := .lis ((xs.take (xs.length - 1)).map dS)) ⟨_, upd_same, by
      rw [List.map_take, hlen]; exact h5 _ h4⟩
    exact f.nx _ _ _ _ _ hk c4 (s1.trans (s2.trans s3))
end
end De
end
section
set_option Elab.async false
set_option linter.all false
set_option maxRecDepth 100000
set_option maxHeartbeats 2000000
/-! sites.py: the methods -/
namespace De
open PySem PySem.Spec PyProof.Rows L2
@[reducible] def Pre1 : SPre := fun args _ _ _ => args = []
@[reducible] def Post1 : SPost := fun _ xs _ L w xs' L' => w = dI xs.length ∧ xs' = xs ∧ L' = L
section
variable {K : PySem.W.Frag} {g : Gr} {δ : List Sl} {k : Sl → Mus → Prop} {ta : TE} {C : Addr} {μ : Mus} {E : XK}
theorem ev_height (h : Ev K g δ μ ta fun w μ1 => ∃ p dx c m xs r L rest, w = .va (.ref p) ∧ μ1 = siteM C p dx c m xs r L ++ rest ∧ k (dI xs.length) (siteM C p dx c m xs r L ++ rest)) : Ev K g δ μ (tProp C (spG K (stS C Pre1 Post1)) [] E ta) k :=
  ev_propS fun σ H B cc Q hq => h σ H B cc Q fun w μ1 v H1 B1 ⟨p, dx, c, m, xs, r, L, rest, e1, e2, x⟩ => hq w μ1 v H1 B1 ⟨p, dx, c, m, xs, r, L, rest, e1, e2, rfl, fun w xs' L' ⟨h1, h2, h3⟩ => by subst h1 h2 h3; exact x⟩
end
local macro_rules | `(tactic| walk_at "de") => `(tactic| first
  | with_reducible refine go_seq ?_
  | with_reducible refine go_set ?_
  | with_reducible refine go_ret ?_
  | with_reducible refine go_if ?_
  | with_reducible refine go_next ?_
  | with_reducible refine go_drop ?_
  | ((with_reducible apply ev_da); exact rfl)
  | ((with_reducible apply ev_va); exact rfl)
  | with_reducible refine ev_c ?_
  | with_reducible refine ev_op ?_
  | with_reducible refine ev_un ?_
  | with_reducible refine ea_nil ?_
  | with_reducible refine ea_cons ?_
  | with_reducible refine ev_sortset ?_
  | ((with_reducible apply ev_cells); (focus assumption); (focus assumption))
  | ((with_reducible apply ev_reach); (focus assumption); (focus assumption))
  | ((with_reducible apply ev_made); (focus assumption); (focus assumption))
  | with_reducible refine ev_height ?_
  | ((with_reducible apply ev_methS); (focus (decide +kernel)); (focus (decide +kernel)); (focus (decide +kernel)))
  | with_reducible refine ev_callS ?_
  | with_reducible refine ev_count ?_
  | with_reducible refine oc_len_c ?_
  | with_reducible refine ev_cb ?_
  | with_reducible refine eb_test ?_
  | with_reducible refine eb_B ?_
  | with_reducible refine eb_and ?_
  | with_reducible refine eb_or ?_
  | with_reducible refine eb_not ?_
  | with_reducible refine ev_andV ?_
  | with_reducible refine ev_orV ?_
  | with_reducible refine ev_notV ?_
  | with_reducible refine ev_if ?_
  | with_reducible refine ev_sl ?_
  | with_reducible refine eo_no ?_
  | with_reducible refine eo_some ?_
  | with_reducible refine ev_tup' ?_
  | with_reducible refine ev_callX ?_
  | with_reducible refine ev_callP ?_
  | with_reducible refine ev_callNP ?_
  | with_reducible refine ev_call ?_
  | with_reducible refine ev_callN ?_
  | with_reducible refine ev_chain ?_
  | with_reducible refine o_I0 ?_
  | with_reducible refine o_eqI ?_
  | with_reducible refine o_neI ?_
  | with_reducible refine o_eqS ?_
  | with_reducible refine o_neS ?_
  | with_reducible refine o_isN ?_
  | with_reducible refine o_notN ?_
  | with_reducible refine o_ltS ?_
  | with_reducible refine o_U ?_
  | with_reducible refine oc_len_tS ?_
  | with_reducible refine oc_len_lS ?_
  | with_reducible refine oc_len_t ?_
  | with_reducible refine oc_len_l ?_
  | with_reducible refine o_ix0 ?_
  | with_reducible refine o_ix1 ?_
  | with_reducible refine ev_dnew ?_
  | with_reducible refine oc_isiT ?_
  | with_reducible refine oc_isiTL ?_
  | with_reducible refine oc_isiI ?_
  | with_reducible refine oc_isiIB ?_
  | with_reducible refine oc_isiS ?_
  | with_reducible refine oc_min2 ?_
  | with_reducible refine oc_max2 ?_
  | with_reducible refine oc_abs ?_
  | with_reducible refine oc_tup_lS ?_
  | with_reducible refine oc_tup_l ?_
  | with_reducible refine o_inF ?_
  | with_reducible refine o_inT ?_
  | with_reducible refine o_inLF ?_
  | with_reducible refine o_inLT ?_
  | with_reducible refine eb_yes ?_
  | (refine Exists.intro _ (Exists.intro _ (Exists.intro _ (Exists.intro _ (Exists.intro _ (Exists.intro _ (Exists.intro _ (Exists.intro _ (And.intro rfl (And.intro rfl ?_))))))))))
  | (refine Exists.intro _ (And.intro (show dats _ = some _ from rfl) (And.intro (show Nat.ble _ 60 = true from rfl) ?_)))
  | with_reducible refine Exists.intro _ (And.intro rfl ?_))
local macro_rules | `(tactic| walk_at "cx") => `(tactic| try simp only [cx_K, cx_K'])
local macro_rules | `(tactic| walk_at "go") => `(tactic| repeat walk_at "de")

section
variable {P : Program} {w : World} {K : PySem.W.Frag} {mg : Str → Option Value} {base : Heap}
theorem st_len {C : Addr} {Pre : SPre} {Post : SPost} {n : Nat} (h : ∀ args xs r L, Pre args xs r L → args.length = n) : ∀ ws μ k, stS C Pre Post ws μ k → ws.length = n + 1 := fun ws μ k ⟨p, dx, c, m, xs, r, L, args, e, _, hp, _⟩ => by
  rw [e, List.length_cons, h _ _ _ _ hp]
theorem sc37_1 : FnScope ["self"] ["self"] (defScope (inClass (topS 37) 1)) := ⟨rfl, rfl, rfl, by decide +kernel, rfl, by decide +kernel, by decide +kernel⟩
theorem ok37_1 (T : Tx K mg) : FnOk P w K mg base CX0 1 T.a1 T.d1 ["self"] (spG K (stS T.aS Pre1 Post1)) := by
  refine fn_go T.F1 sc37_1 (st_len (n := 0) fun args xs r L h => by rw [h]; rfl) (fun cdv A outer s H E hr => ⟨_, (pss_one (ps_ret (pe_callB (r := Evl.rLenS K) call_lenS (by rfl) T.z_len (by decide +kernel) (pa_cons (pe_fldK (K := K) rfl (pv 0) rfl) pa_nil)))), fun g ws μ k eg h => ?_⟩)
  refine st_go eg h fun p dx c m xs r L args e hp eg => ?_
  cases hp
  have hcl := T.clS
  have hnc := T.na_cells
  walk_at "cx"
  walk_at "go"
  exact ⟨_, _, [], ⟨rfl, rfl, rfl⟩, rfl⟩
theorem sc37_2 : FnScope ["self"] ["self"] (defScope (inClass (topS 37) 2)) := ⟨rfl, rfl, rfl, by decide +kernel, rfl, by decide +kernel, by decide +kernel⟩
@[reducible] def Pre2 : SPre := fun args xs _ L => args = [] ∧ 0 < xs.length ∧ L.length < 90000
@[reducible] def Post2 : SPost := fun _ xs _ L w xs' L' => w = dN ∧ xs' = xs.take (xs.length - 1) ∧ L' = L ++ [.pop]
theorem ok37_2 (T : Tx K mg) : FnOk P w K mg base CX0 1 T.f37_2.a T.f37_2.d ["self"] (spG K (stS T.aS Pre2 Post2)) := by
  refine fn_go T.f37_2.F sc37_2 (st_len (n := 0) fun args xs r L h => by rw [h.1]; rfl) (fun cdv A outer s H E hr => ⟨_, (pss_cons (ps_delS (pe_fldK (K := K) rfl (pv 0) rfl) (po_some (pe_un un_neg pe_int)) po_none)
      (pss_one (ps_expr (pe_bmK (K := K) rfl PySem.F.plainAttrs_list PySem.F.slot_list_append PySem.F.type_list_append mt_append (pe_fldK (K := K) rfl (pv 0) rfl) (pa_cons (pe_tupF (pa_cons (pe_glob rfl T.mPOP T.cPOP) pa_nil)) pa_nil))))), fun g ws μ k eg h => ?_⟩)
  refine st_go eg h fun p dx c m xs r L args e hp eg => ?_
  obtain ⟨rfl, h0, hL⟩ := hp
  have hcl := T.clS
  have hnc := T.na_cells
  have hnm := T.na_made
  walk_at "cx"
  refine go_seq (go_delS (C := T.aS) ?_)
  walk_at "go"
  refine ⟨p, dx, c, m, xs, r, L, [], rfl, rfl, rfl, rfl, h0, ?_⟩
  refine go_drop (ev_appM (C := T.aS) ?_)
  walk_at "go"
  refine om_made (x := .pop) hL ?_
  exact ⟨_, _, [], ⟨rfl, rfl, rfl⟩, rfl⟩
theorem sc37_3 : FnScope ["self", "index"] ["self", "index"] (defScope (inClass (topS 37) 3)) := ⟨rfl, rfl, rfl, by decide +kernel, rfl, by decide +kernel, by decide +kernel⟩
@[reducible] def Pre3 : SPre := fun args xs _ L => (∃ i : Nat, args = [dI i] ∧ i < xs.length) ∧ xs.length < 80000 ∧ L.length < 80000
@[reducible] def Post3 : SPost := fun args xs _ L w xs' L' => ∃ i : Nat, args = [dI i] ∧ w = dN ∧ xs' = xs ++ (xs[i]?).toList ∧ L' = L ++ [.dup (xs.length - i)]
theorem ok37_3 (T : Tx K mg) : FnOk P w K mg base CX0 3 T.f37_3.a T.f37_3.d ["self", "index"] (spG K (stS T.aS Pre3 Post3)) := by
  refine fn_go T.f37_3.F sc37_3 (st_len (n := 1) fun args xs r L h => by obtain ⟨⟨i, h, _⟩, _⟩ := h; rw [h]; rfl) (fun cdv A outer s H E hr => ⟨_, (pss_cons (ps_expr (pe_bmK (K := K) rfl PySem.F.plainAttrs_list PySem.F.slot_list_append PySem.F.type_list_append mt_append (pe_fldK (K := K) rfl (pv 0) rfl) (pa_cons (pe_tupF (pa_cons (pe_glob rfl T.mDUP T.cDUP) (pa_cons (pe_op op_sub (pe_prop (pv 0) T.clS T.ph (ok37_1 T) (hr.mono (by decide)) T.b1 .nil pass0 rfl) (pv 1)) pa_nil))) pa_nil)))
      (pss_one (ps_expr (pe_bmK (K := K) rfl PySem.F.plainAttrs_list PySem.F.slot_list_append PySem.F.type_list_append mt_append (pe_fldK (K := K) rfl (pv 0) rfl) (pa_cons (pe_ix (r := rIx K) ix_seq (pe_fldK (K := K) rfl (pv 0) rfl) (pv 1) (fun _ _ => rfl)) pa_nil))))), fun g ws μ k eg h => ?_⟩)
  refine st_go eg h fun p dx c m xs r L args e hp eg => ?_
  obtain ⟨⟨i, rfl, hi⟩, hx, hL⟩ := hp
  have hcl := T.clS
  have hnc := T.na_cells
  have hnm := T.na_made
  obtain ⟨y, hy⟩ : ∃ y, xs[i]? = some y := ⟨_, List.getElem?_eq_getElem hi⟩
  walk_at "cx"
  refine go_seq (go_drop (ev_appM (C := T.aS) ?_))
  walk_at "go"
  rw [show (xs.length : Int) - (i : Int) = ((xs.length - i : Nat) : Int) by omega]
  refine om_made (x := .dup (xs.length - i)) (by omega) ?_
  refine go_drop (ev_appC (C := T.aS) ?_)
  walk_at "go"
  refine o_ixC rfl hy ?_
  walk_at "go"
  refine om_cells (by omega) ?_
  refine ⟨_, _, [], ⟨i, rfl, rfl, ?_, rfl⟩, rfl⟩
  rw [hy]; rfl
theorem sc37_4 : FnScope ["self", "index", "top"] ["self", "index"] (defScope (inClass (topS 37) 4)) := ⟨rfl, rfl, rfl, by decide +kernel, rfl, by decide +kernel, by decide +kernel⟩
def exL (xs : List Str) (i : Nat) (L : List Ins) : List Ins := if i + 1 = xs.length then L else L ++ [.swap (xs.length - 1 - i)]
theorem exL_len (xs : List Str) (i : Nat) (L : List Ins) : (exL xs i L).length ≤ L.length + 1 := by
  unfold exL; split
  · omega
  · rw [List.length_append]; exact Nat.le_refl _
@[reducible] def Pre4 : SPre := fun args xs _ L => (∃ i : Nat, args = [dI i] ∧ i < xs.length) ∧ xs.length < 90000 ∧ L.length < 90000
@[reducible] def Post4 : SPost := fun args xs _ L w xs' L' => ∃ i : Nat, args = [dI i] ∧ w = dN ∧ xs' = exch xs i ∧ L' = exL xs i L
theorem ok37_4 (T : Tx K mg) : FnOk P w K mg base CX0 3 T.f37_4.a T.f37_4.d ["self", "index"] (spG K (stS T.aS Pre4 Post4)) := by
  refine fn_go T.f37_4.F sc37_4 (st_len (n := 1) fun args xs r L h => by obtain ⟨⟨i, h, _⟩, _⟩ := h; rw [h]; rfl) (fun cdv A outer s H E hr => ⟨_, (pss_cons (ps_set (i := 2) sc37_4.nd rfl (.inl rfl) (pe_op op_sub (pe_prop (pv 0) T.clS T.ph (ok37_1 T) (hr.mono (by decide)) T.b1 .nil pass0 rfl) pe_int))
      (pss_one (ps_if (pt_cmpR op_ne (pv 1) (pv 2) (nomark _)) (pss_cons (ps_expr (pe_bmK (K := K) rfl PySem.F.plainAttrs_list PySem.F.slot_list_append PySem.F.type_list_append mt_append (pe_fldK (K := K) rfl (pv 0) rfl) (pa_cons (pe_tupF (pa_cons (pe_glob rfl T.mSWAP T.cSWAP) (pa_cons (pe_op op_sub (pv 2) (pv 1)) pa_nil))) pa_nil)))
      (pss_one (ps_asg (pe_tupF (pa_cons (pe_ix (r := rIx K) ix_seq (pe_fldK (K := K) rfl (pv 0) rfl) (pv 2) (fun _ _ => rfl)) (pa_cons (pe_ix (r := rIx K) ix_seq (pe_fldK (K := K) rfl (pv 0) rfl) (pv 1) (fun _ _ => rfl)) pa_nil))) (pg_tup rfl (pgs_cons (pg_sub (pe_fldK (K := K) rfl (pv 0) rfl) (pv 1) set_list) (pgs_cons (pg_sub (pe_fldK (K := K) rfl (pv 0) rfl) (pv 2) set_list) pgs_nil)))))) pss_nil))), fun g ws μ k eg h => ?_⟩)
  refine st_go eg h fun p dx c m xs r L args e hp eg => ?_
  obtain ⟨⟨i, rfl, hi⟩, hx, hL⟩ := hp
  have hcl := T.clS
  have hnc := T.na_cells
  have hnm := T.na_made
  obtain ⟨y, hy⟩ : ∃ y, xs[i]? = some y := ⟨_, List.getElem?_eq_getElem hi⟩
  obtain ⟨z, hz⟩ : ∃ z, xs[xs.length - 1]? = some z := ⟨_, List.getElem?_eq_getElem (by omega)⟩
  walk_at "cx"
  walk_at "go"
  have et : (xs.length : Int) - 1 = ((xs.length - 1 : Nat) : Int) := by omega
  refine ⟨fun h => ?_, fun h => ?_⟩
  · have h' : ¬ i + 1 = xs.length := by
      intro z
      have e : (i : Int) = (xs.length : Int) - 1 := by omega
      rw [decide_eq_true e] at h; cases h
    refine go_seq (go_drop (ev_appM (C := T.aS) ?_))
    walk_at "go"
    rw [show (xs.length : Int) - 1 - (i : Int) = ((xs.length - 1 - i : Nat) : Int) by omega]
    refine om_made (x := .swap (xs.length - 1 - i)) hL ?_
    refine go_asg ?_
    walk_at "go"
    refine o_ixC et hz ?_
    walk_at "go"
    refine o_ixC rfl hy ?_
    walk_at "go"
    refine eg_tup2 (eg_cell (C := T.aS) ?_)
    walk_at "go"
    refine ⟨p, dx, c, m, xs, r, _, [], _, i, rfl, rfl, rfl, rfl, hi, eg_cell (C := T.aS) ?_⟩
    walk_at "go"
    refine ⟨p, dx, c, m, _, r, _, [], _, xs.length - 1, rfl, rfl, rfl, et, by rw [List.length_set]; omega, ?_⟩
    refine ⟨_, _, [], ⟨i, rfl, rfl, ?_, ?_⟩, rfl⟩
    · unfold exch
      rw [hy, hz]
    · unfold exL
      rw [if_neg h']
  · have h' : i + 1 = xs.length := by
      have : (i : Int) = (xs.length : Int) - 1 := by simpa using h
      omega
    walk_at "go"
    refine ⟨_, _, [], ⟨i, rfl, rfl, (exch_top h').symm, ?_⟩, rfl⟩
    unfold exL
    rw [if_pos h']
theorem sc37_5 : FnScope ["self", "index"] ["self", "index"] (defScope (inClass (topS 37) 5)) := ⟨rfl, rfl, rfl, by decide +kernel, rfl, by decide +kernel, by decide +kernel⟩
def rmL (xs : List Str) (i : Nat) (L : List Ins) : List Ins := exL xs i L ++ [.pop]
@[reducible] def Pre5 : SPre := fun args xs _ L => (∃ i : Nat, args = [dI i] ∧ i < xs.length) ∧ xs.length < 80000 ∧ L.length < 80000
@[reducible] def Post5 : SPost := fun args xs _ L w xs' L' => ∃ i : Nat, args = [dI i] ∧ w = dN ∧ xs' = rem xs i ∧ L' = rmL xs i L
theorem ok37_5 (T : Tx K mg) : FnOk P w K mg base CX0 4 T.f37_5.a T.f37_5.d ["self", "index"] (spG K (stS T.aS Pre5 Post5)) := by
  refine fn_go T.f37_5.F sc37_5 (st_len (n := 1) fun args xs r L h => by obtain ⟨⟨i, h, _⟩, _⟩ := h; rw [h]; rfl) (fun cdv A outer s H E hr => ⟨_, (pss_cons (ps_expr (pe_meth (pv 0) T.clS T.f37_4.m (ok37_4 T) (hr.mono (by decide)) T.f37_4.b .nil pass0 (pa_cons (pv 1) pa_nil)))
      (pss_one (ps_expr (pe_meth0 (pv 0) T.clS T.f37_2.m (ok37_2 T) (hr.mono (by decide)) T.f37_2.b .nil pass0)))), fun g ws μ k eg h => ?_⟩)
  refine st_go eg h fun p dx c m xs r L args e hp eg => ?_
  obtain ⟨⟨i, rfl, hi⟩, hx, hL⟩ := hp
  have hel := exL_len xs i L
  walk_at "cx"
  walk_at "go"
  refine ⟨_, _, _, rfl, ⟨⟨i, rfl, hi⟩, by omega, by omega⟩, ?_⟩
  rintro w xs' L' ⟨i', e1, rfl, rfl, rfl⟩
  have e1' : i = i' := by
    simp only [List.cons.injEq, Sl.da.injEq, PyData.int.injEq, and_true] at e1
    omega
  subst e1'
  walk_at "go"
  refine ⟨_, _, _, rfl, ⟨rfl, by rw [exch_len]; omega, by omega⟩, ?_⟩
  rintro w xs' L' ⟨rfl, rfl, rfl⟩
  refine ⟨_, _, [], ⟨i, rfl, rfl, ?_, rfl⟩, rfl⟩
  unfold rem
  rw [exch_len]
theorem sc37_6 : FnScope ["self", "index", "source"] ["self", "index", "source"] (defScope (inClass (topS 37) 6)) := ⟨rfl, rfl, rfl, by decide +kernel, rfl, by decide +kernel, by decide +kernel⟩
def rpL (xs : List Str) (i s : Nat) (L : List Ins) : List Ins := rmL (xs ++ (xs[s]?).toList) i (L ++ [.dup (xs.length - s)])
@[reducible] def Pre6 : SPre := fun args xs _ L => (∃ i s : Nat, args = [dI i, dI s] ∧ i < xs.length ∧ s < xs.length) ∧ xs.length < 70000 ∧ L.length < 70000
@[reducible] def Post6 : SPost := fun args xs _ L w xs' L' => ∃ i s : Nat, args = [dI i, dI s] ∧ w = dN ∧ xs' = rep xs i s ∧ L' = rpL xs i s L
theorem ok37_6 (T : Tx K mg) : FnOk P w K mg base CX0 5 T.f37_6.a T.f37_6.d ["self", "index", "source"] (spG K (stS T.aS Pre6 Post6)) := by
  refine fn_go T.f37_6.F sc37_6 (st_len (n := 2) fun args xs r L h => by obtain ⟨⟨i, s, h, _⟩, _⟩ := h; rw [h]; rfl) (fun cdv A outer s H E hr => ⟨_, (pss_cons (ps_expr (pe_meth (pv 0) T.clS T.f37_3.m (ok37_3 T) (hr.mono (by decide)) T.f37_3.b .nil pass0 (pa_cons (pv 2) pa_nil)))
      (pss_one (ps_expr (pe_meth (pv 0) T.clS T.f37_5.m (ok37_5 T) (hr.mono (by decide)) T.f37_5.b .nil pass0 (pa_cons (pv 1) pa_nil))))), fun g ws μ k eg h => ?_⟩)
  refine st_go eg h fun p dx c m xs r L args e hp eg => ?_
  obtain ⟨⟨i, j, rfl, hi, hj⟩, hx, hL⟩ := hp
  walk_at "cx"
  walk_at "go"
  refine ⟨_, _, _, rfl, ⟨⟨j, rfl, hj⟩, by omega, by omega⟩, ?_⟩
  rintro w xs' L' ⟨j', e1, rfl, rfl, rfl⟩
  have e1' : j = j' := by
    simp only [List.cons.injEq, Sl.da.injEq, PyData.int.injEq, and_true] at e1
    omega
  subst e1'
  have hl : (xs ++ (xs[j]?).toList).length = xs.length + 1 := by
    rw [List.length_append, List.getElem?_eq_getElem hj]; rfl
  walk_at "go"
  refine ⟨_, _, _, rfl, ⟨⟨i, rfl, by omega⟩, by omega, by rw [List.length_append, List.length_singleton]; omega⟩, ?_⟩
  rintro w xs' L' ⟨i', e1, rfl, rfl, rfl⟩
  have e1' : i = i' := by
    simp only [List.cons.injEq, Sl.da.injEq, PyData.int.injEq, and_true] at e1
    omega
  subst e1'
  exact ⟨_, _, [], ⟨i, j, rfl, rfl, rfl, rfl⟩, rfl⟩
theorem sc37_7 : FnScope ["self", "source", "index"] ["self", "source", "index"] (defScope (inClass (topS 37) 7)) := ⟨rfl, rfl, rfl, by decide +kernel, rfl, by decide +kernel, by decide +kernel⟩
def mvL (xs : List Str) (s i : Nat) (L : List Ins) : List Ins := exL (exch xs s) i (exL xs s L)
@[reducible] def Pre7 : SPre := fun args xs _ L => (∃ s i : Nat, args = [dI s, dI i] ∧ s < xs.length ∧ i < xs.length) ∧ xs.length < 70000 ∧ L.length < 70000
@[reducible] def Post7 : SPost := fun args xs _ L w xs' L' => ∃ s i : Nat, args = [dI s, dI i] ∧ w = dN ∧ xs' = mov xs s i ∧ L' = mvL xs s i L
theorem ok37_7 (T : Tx K mg) : FnOk P w K mg base CX0 4 T.f37_7.a T.f37_7.d ["self", "source", "index"] (spG K (stS T.aS Pre7 Post7)) := by
  refine fn_go T.f37_7.F sc37_7 (st_len (n := 2) fun args xs r L h => by obtain ⟨⟨i, s, h, _⟩, _⟩ := h; rw [h]; rfl) (fun cdv A outer s H E hr => ⟨_, (pss_cons (ps_expr (pe_meth (pv 0) T.clS T.f37_4.m (ok37_4 T) (hr.mono (by decide)) T.f37_4.b .nil pass0 (pa_cons (pv 1) pa_nil)))
      (pss_one (ps_expr (pe_meth (pv 0) T.clS T.f37_4.m (ok37_4 T) (hr.mono (by decide)) T.f37_4.b .nil pass0 (pa_cons (pv 2) pa_nil))))), fun g ws μ k eg h => ?_⟩)
  refine st_go eg h fun p dx c m xs r L args e hp eg => ?_
  obtain ⟨⟨j, i, rfl, hj, hi⟩, hx, hL⟩ := hp
  have hel := exL_len xs j L
  walk_at "cx"
  walk_at "go"
  refine ⟨_, _, _, rfl, ⟨⟨j, rfl, hj⟩, by omega, by omega⟩, ?_⟩
  rintro w xs' L' ⟨j', e1, rfl, rfl, rfl⟩
  have e1' : j = j' := by
    simp only [List.cons.injEq, Sl.da.injEq, PyData.int.injEq, and_true] at e1
    omega
  subst e1'
  walk_at "go"
  refine ⟨_, _, _, rfl, ⟨⟨i, rfl, by rw [exch_len]; omega⟩, by rw [exch_len]; omega, by omega⟩, ?_⟩
  rintro w xs' L' ⟨i', e1, rfl, rfl, rfl⟩
  have e1' : i = i' := by
    simp only [List.cons.injEq, Sl.da.injEq, PyData.int.injEq, and_true] at e1
    omega
  subst e1'
  exact ⟨_, _, [], ⟨j, i, rfl, rfl, rfl, rfl⟩, rfl⟩
theorem sc37_8 : FnScope ["self"] ["self"] (defScope (inClass (topS 37) 8)) := ⟨rfl, rfl, rfl, by decide +kernel, rfl, by decide +kernel, by decide +kernel⟩
@[reducible] def Post8 : SPost := fun _ xs r L w xs' L' => w = dI ((xs.length - 1 - r : Nat) : Int) ∧ xs' = xs ∧ L' = L
theorem ok37_8 (T : Tx K mg) : FnOk P w K mg base CX0 3 T.f37_8.a T.f37_8.d ["self"] (spG K (stS T.aS Pre1 Post8)) := by
  refine fn_go T.f37_8.F sc37_8 (st_len (n := 0) fun args xs r L h => by rw [h]; rfl) (fun cdv A outer s H E hr => ⟨_, (pss_one (ps_ret (pe_callB (call_max2 rfl) (by rfl) T.z_max (by decide +kernel) (pa_cons pe_int (pa_cons (pe_op op_sub (pe_op op_sub (pe_prop (pv 0) T.clS T.ph (ok37_1 T) (hr.mono (by decide)) T.b1 .nil pass0 rfl) pe_int) (pe_fldK (K := K) rfl (pv 0) rfl)) pa_nil))))), fun g ws μ k eg h => ?_⟩)
  refine st_go eg h fun p dx c m xs r L args e hp eg => ?_
  cases hp
  have hcl := T.clS
  have hnr := T.na_reach
  walk_at "cx"
  walk_at "go"
  refine ⟨_, _, [], ⟨congrArg dI ?_, rfl, rfl⟩, rfl⟩
  split <;> omega
end
end De
end
section
set_option Elab.async false
set_option linter.all false
set_option maxRecDepth 100000
set_option maxHeartbeats 2000000
/-! sites.py, building.py: removable, lower, index_of, spare_index, lacking, is_extra -/
namespace De
open PySem PySem.Spec PyProof.Rows L2
/-! ### what the moves leave of the runs -/
theorem exL_runs {k f i : Nat} {S xs : List Str} {L : List Ins} (h : Runs k f S L xs) (hi : i < xs.length) (hf : f ≤ i) (hk : xs.length ≤ i + k + 1) : Runs k f S (exL xs i L) (exch xs i) := by
  unfold exL
  by_cases e : i + 1 = xs.length
  · rw [if_pos e, exch_top e]; exact h
  · rw [if_neg e]; exact runs_exch h (by omega) hk hf
theorem rmL_runs {k f i : Nat} {S xs : List Str} {L : List Ins} (h : Runs k f S L xs) (hi : i < xs.length) (hf : f ≤ i) (hk : xs.length ≤ i + k + 1) : Runs k f S (rmL xs i L) (rem xs i) := by
  have := runs_pop (exL_runs h hi hf hk) (by rw [exch_len]; omega)
  rw [exch_len] at this
  exact this
theorem cp_len {xs : List Str} {s : Nat} (h : s < xs.length) : (xs ++ (xs[s]?).toList).length = xs.length + 1 := by
  rw [List.length_append, List.getElem?_eq_getElem h]; rfl
theorem rpL_runs {k f i s : Nat} {S xs : List Str} {L : List Ins} (h : Runs k f S L xs) (hi : i < xs.length) (hs : s < xs.length) (hf : f ≤ i) (hfs : f ≤ s) (hks : xs.length ≤ s + k) (hk : xs.length ≤ i + k) : Runs k f S (rpL xs i s L) (rep xs i s) := by
  have h1 := runs_copy h hs hks hfs
  exact rmL_runs h1 (by rw [cp_len hs]; omega) hf (by rw [cp_len hs]; omega)
theorem mvL_runs {k f i s : Nat} {S xs : List Str} {L : List Ins} (h : Runs k f S L xs) (hi : i < xs.length) (hs : s < xs.length) (hf : f ≤ i) (hfs : f ≤ s) (hks : xs.length ≤ s + k + 1) (hk : xs.length ≤ i + k + 1) : Runs k f S (mvL xs s i L) (mov xs s i) :=
  exL_runs (exL_runs h hs hfs hks) (by rw [exch_len]; exact hi) hf (by rw [exch_len]; exact hk)
theorem rmL_len (xs : List Str) (i : Nat) (L : List Ins) : (rmL xs i L).length ≤ L.length + 2 := by
  unfold rmL
  have := exL_len xs i L
  rw [List.length_append, List.length_singleton]; omega
theorem rpL_len (xs : List Str) (i s : Nat) (L : List Ins) : (rpL xs i s L).length ≤ L.length + 3 := by
  unfold rpL
  have := rmL_len (xs ++ (xs[s]?).toList) i (L ++ [.dup (xs.length - s)])
  rw [List.length_append, List.length_singleton] at this
  omega
theorem mvL_len (xs : List Str) (s i : Nat) (L : List Ins) : (mvL xs s i L).length ≤ L.length + 2 := by
  unfold mvL
  have := exL_len (exch xs s) i (exL xs s L)
  have := exL_len xs s L
  omega
/-! ### tuple.count -/
def rCntT (K : PySem.W.Frag) : V → List V → Hp → VK → Prop := fun x xs H Q => ∃ (p : Addr) (ss : List Str) (k : Str), x = .ref p ∧ xs = [.str k] ∧ SqT K H p (ss.map V.str) ∧ Q (.int (ss.count k : Nat)) H
theorem mt_tcount {X : Cx} : MtR X "tuple.count" (rCntT X.K) := by
  intro pins s σ H x xs v us Q I rx rxs h
  obtain ⟨p, ss, k, rfl, rfl, hs, q⟩ := h
  cases rx
  obtain ⟨u, rfl, ru⟩ := rxs.one
  obtain ⟨t, rfl⟩ := ru
  obtain ⟨its, rv, ⟨⟨cls, dd, data, sl⟩, ho, hc, n, hd⟩, hlen⟩ := I.tuple hs
  simp only at hc hd
  subst hc hd
  have hi := Vals.strs rv
  refine call_meets PySem.F.slot_tuple_count ⟨_, ho, rfl⟩ PySem.F.entry_tuple_count (PySem.F.args_tuple_count_2 _ _)
    (SeqAt.tuple_countAt p its.toArray n dd sl (.str k t) (eqs k)) ⟨ho, fun y hy => (eqs_gives hi y (by simpa using hy)).at _ _, ?_⟩
  have ec : its.toArray.toList.countP (eqs k) = ss.count k := eqs_count hi
  refine ⟨.int (ss.count k : Nat), H, I.tok _, ⟨s.toks, ?_⟩, q⟩
  show Value.int ((its.toArray.toList.countP (eqs k) : Nat) : Int) s.toks = Value.int ((ss.count k : Nat) : Int) s.toks
  rw [ec]
section
variable {K : PySem.W.Frag} {g : Gr} {δ : List Sl} {μ : Mus} {k : Sl → Mus → Prop} {ta : TE} {tas : TA}
theorem ev_tcount (h : Ev K g δ μ ta fun w μ1 => ∃ ss, w = .da (tS ss) ∧ EvA K g δ μ1 tas fun ws μ2 => ∃ s, ws = [dS s] ∧ k (dI (ss.count s)) μ2) : Ev K g δ μ (tBMT (rCntT K) ta tas) k := fun σ H B cc Q hq =>
  h σ H B cc _ fun w μ1 v H1 B1 ⟨ss, e, h2⟩ c1 s1 r1 => by
    subst e
    obtain ⟨a, xs, rfl, h3, h4⟩ := dp_tupF r1
    cases dps_str h4
    refine ⟨⟨a, _, rfl, same_tf c1.bh h3⟩, h2 σ H1 B1 c1 _ fun ws μ2 vs H2 B2 ⟨s, e, hk⟩ c2 s2 r2 => ?_⟩
    subst e
    obtain ⟨u, rfl, r3⟩ := rl1 r2
    exact ⟨a, ss, s, rfl, by rw [dp_str r3], (same_tf c2.bh (same_tf s2 h3)).sq, (hq.mono (s1.trans s2)).go c2 hk (.int _)⟩
/-- keep: a tuple or a list -/
def Kd (kd : Sl) (keep : List Str) : Prop := kd = .da (tS keep) ∨ kd = .da (lS keep)
theorem o_inKT {kd : Sl} {keep : List Str} {s : Str} (h : Kd kd keep) (q : k (dB (!decide (s ∈ keep))) μ) : Op2 K g δ (rIn K true) (dS s) kd μ k := by
  rcases h with rfl | rfl
  · exact o_inT q
  · exact o_inLT q
theorem ev_kd {kd : Sl} {keep : List Str} {i : Nat} (hk : Kd kd keep) (h : δ[i]? = some kd) (q : k kd μ) : Ev K g δ μ (tVar i) k := by
  rcases hk with rfl | rfl
  · exact ev_da h q
  · exact ev_da h q
end
local macro_rules | `(tactic| walk_at "de") => `(tactic| first
  | with_reducible refine go_seq ?_
  | with_reducible refine go_set ?_
  | with_reducible refine go_ret ?_
  | with_reducible refine go_if ?_
  | with_reducible refine go_next ?_
  | with_reducible refine go_drop ?_
  | ((with_reducible apply ev_da); exact rfl)
  | ((with_reducible apply ev_va); exact rfl)
  | with_reducible refine ev_c ?_
  | with_reducible refine ev_op ?_
  | with_reducible refine ev_un ?_
  | with_reducible refine ea_nil ?_
  | with_reducible refine ea_cons ?_
  | with_reducible refine ev_sortset ?_
  | ((with_reducible apply ev_cells); (focus assumption); (focus assumption))
  | ((with_reducible apply ev_reach); (focus assumption); (focus assumption))
  | ((with_reducible apply ev_made); (focus assumption); (focus assumption))
  | with_reducible refine ev_height ?_
  | ((with_reducible apply ev_methS); (focus (decide +kernel)); (focus (decide +kernel)); (focus (decide +kernel)))
  | with_reducible refine ev_callS ?_
  | with_reducible refine ev_count ?_
  | with_reducible refine ev_tcount ?_
  | with_reducible refine oc_len_c ?_
  | with_reducible refine ev_cb ?_
  | with_reducible refine eb_test ?_
  | with_reducible refine eb_B ?_
  | with_reducible refine eb_and ?_
  | with_reducible refine eb_or ?_
  | with_reducible refine eb_not ?_
  | with_reducible refine ev_andV ?_
  | with_reducible refine ev_orV ?_
  | with_reducible refine ev_notV ?_
  | with_reducible refine ev_if ?_
  | with_reducible refine ev_sl ?_
  | with_reducible refine eo_no ?_
  | with_reducible refine eo_some ?_
  | with_reducible refine ev_tup' ?_
  | with_reducible refine ev_callX ?_
  | with_reducible refine ev_callP ?_
  | with_reducible refine ev_callNP ?_
  | with_reducible refine ev_call ?_
  | with_reducible refine ev_callN ?_
  | with_reducible refine ev_chain ?_
  | with_reducible refine o_I0 ?_
  | with_reducible refine o_eqI ?_
  | with_reducible refine o_neI ?_
  | with_reducible refine o_eqS ?_
  | with_reducible refine o_neS ?_
  | with_reducible refine o_isN ?_
  | with_reducible refine o_notN ?_
  | with_reducible refine o_ltS ?_
  | with_reducible refine o_U ?_
  | with_reducible refine oc_len_tS ?_
  | with_reducible refine oc_len_lS ?_
  | with_reducible refine oc_len_t ?_
  | with_reducible refine oc_len_l ?_
  | with_reducible refine o_ix0 ?_
  | with_reducible refine o_ix1 ?_
  | with_reducible refine ev_dnew ?_
  | with_reducible refine oc_isiT ?_
  | with_reducible refine oc_isiTL ?_
  | with_reducible refine oc_isiI ?_
  | with_reducible refine oc_isiIB ?_
  | with_reducible refine oc_isiS ?_
  | with_reducible refine oc_min2 ?_
  | with_reducible refine oc_max2 ?_
  | with_reducible refine oc_abs ?_
  | with_reducible refine oc_tup_lS ?_
  | with_reducible refine oc_tup_l ?_
  | with_reducible refine o_inF ?_
  | with_reducible refine o_inT ?_
  | with_reducible refine o_inLF ?_
  | with_reducible refine o_inLT ?_
  | with_reducible refine eb_yes ?_
  | (refine Exists.intro _ (Exists.intro _ (Exists.intro _ (Exists.intro _ (Exists.intro _ (Exists.intro _ (Exists.intro _ (Exists.intro _ (And.intro rfl (And.intro rfl ?_))))))))))
  | (refine Exists.intro _ (And.intro (show dats _ = some _ from rfl) (And.intro (show Nat.ble _ 60 = true from rfl) ?_)))
  | with_reducible refine Exists.intro _ (And.intro rfl ?_))
local macro_rules | `(tactic| walk_at "cx") => `(tactic| try simp only [cx_K, cx_K'])
local macro_rules | `(tactic| walk_at "go") => `(tactic| repeat walk_at "de")

section
variable {P : Program} {w : World} {K : PySem.W.Frag} {mg : Str → Option Value} {base : Heap}
/-! ### removable -/
theorem sc38 : FnScope ["site", "base", "keep", "index", "value"] ["site", "base", "keep"] (defScope (topS 38)) := ⟨rfl, rfl, rfl, by decide +kernel, rfl, by decide +kernel, by decide +kernel⟩
@[reducible] def Pre38 : SPre := fun args xs r _ => ∃ (b : Nat) (kd : Sl) (keep : List Str), args = [dI b, kd] ∧ Kd kd keep ∧ xs.length < 10000 ∧ ∃ i, xs.length - 1 - r ≤ i ∧ i < xs.length ∧ Free xs b keep i
@[reducible] def Post38 : SPost := fun args xs r L w xs' L' => xs' = xs ∧ L' = L ∧ ∃ i : Nat, w = dI i ∧ xs.length - 1 - r ≤ i ∧ i < xs.length ∧ ∀ (b : Nat) (kd : Sl) (keep : List Str), args = [dI b, kd] → Kd kd keep → Free xs b keep i
theorem kd_inj {kd : Sl} {k1 k2 : List Str} (h1 : Kd kd k1) (h2 : Kd kd k2) : k1 = k2 := by
  rcases h1 with rfl | rfl <;> rcases h2 with h | h
  · exact map_str_inj (by simpa using h)
  · simp at h
  · simp at h
  · exact map_str_inj (by simpa using h)
theorem ok38 (T : Tx K mg) : FnOk P w K mg base CX0 4 T.f38.a T.f38.d ["site", "base", "keep"] (spG K (stS T.aS Pre38 Post38)) := by
  refine fn_go T.f38.F sc38 (st_len (n := 2) fun args xs r L h => by obtain ⟨b, kd, keep, h, _⟩ := h; rw [h]; rfl) (fun cdv A outer s H E hr => ⟨_, (pss_cons (ps_for PassesOwn.never rfl (pi_range3 rfl T.z_range (pa_cons (pe_op op_sub (pe_prop (pv 0) T.clS T.ph (ok37_1 T) (hr.mono (by decide)) T.b1 .nil pass0 rfl) pe_int) (pa_cons (pe_op op_sub (pe_meth0 (pv 0) T.clS T.f37_8.m (ok37_8 T) (hr.mono (by decide)) T.f37_8.b .nil pass0) pe_int) (pa_cons (pe_un un_neg pe_int) pa_nil)))) (pg_name (i := 3) sc38.nd rfl (.inl rfl)) (pss_cons (ps_set (i := 4) sc38.nd rfl (.inl rfl) (pe_ix (r := rIx K) ix_seq (pe_fldK (K := K) rfl (pv 0) rfl) (pv 3) (fun _ _ => rfl)))
      (pss_one (ps_if (PW.pt (pw_or (pt_cmpR (r := rIn K true) op_notIn_seq (pv 4) (pv 2) (by rfl)) (pw_or1 (pt_cmpR op_gt (pe_bmK (K := K) rfl PySem.F.plainAttrs_list PySem.F.slot_list_count PySem.F.type_list_count mt_lcountS (pe_slice (r := rSlL K) sl_list (pe_fldK (K := K) rfl (pv 0) rfl) (po_some (pv 1)) po_none) (pa_cons (pv 4) pa_nil)) pe_int (nomark _))))) (pss_one (ps_ret (pv 3))) pss_nil))))
      (pss_one (ps_ret pe_non))), fun g ws μ k eg h => ?_⟩)
  refine st_go eg h fun p dx c m xs r L args e hp eg => ?_
  obtain ⟨b, kd, keep, rfl, hkd, hx, hex⟩ := hp
  have hcl := T.clS
  have hnc := T.na_cells
  walk_at "cx"
  refine go_seq (go_forD ?_)
  walk_at "go"
  refine ⟨_, _, _, rfl, rfl, ?_⟩
  rintro w xs' L' ⟨rfl, rfl, rfl⟩
  walk_at "go"
  refine ⟨_, _, rfl, small_of (by omega) (by omega), small_of (by omega) (by omega), fun n δ' μ' => ∃ x y, δ' = [.va (.ref p), dI b, kd, x, y] ∧ μ' = siteM T.aS p dx c m xs' r L' ++ [] ∧ ∀ j, xs'.length - n ≤ j → j < xs'.length → ¬ Free xs' b keep j, ⟨_, _, rfl, rfl, fun j h1 h2 => by omega⟩, ?_, ?_⟩
  · rintro i δ' μ' hi ⟨x, y, rfl, rfl, hno⟩
    have hi2 : i < xs'.length := by omega
    have e1 : ((xs'.length : Int) - 1 - (i : Int)) = ((xs'.length - 1 - i : Nat) : Int) := by omega
    obtain ⟨z, hz⟩ : ∃ z, xs'[xs'.length - 1 - i]? = some z := ⟨_, List.getElem?_eq_getElem (by omega)⟩
    walk_at "go"
    refine o_ixC e1 hz ?_
    refine go_if (eb_orP ?_)
    walk_at "go"
    refine ev_kd hkd rfl (o_inKT hkd ?_)
    walk_at "go"
    refine ⟨decide (1 < (xs'.drop b).count z), fun _ => ?_, ?_⟩
    · walk_at "go"
      refine os_cells rfl ?_
      walk_at "go"
      exact ⟨decide_eq_decide.mpr (by omega), rfl⟩
    have free : Free xs' b keep (xs'.length - 1 - i) ↔ (z ∉ keep ∨ 1 < (xs'.drop b).count z) := by
      constructor
      · rintro ⟨x, hx1, hx2⟩
        rw [hz] at hx1; cases hx1
        exact hx2
      · exact fun h => ⟨z, hz, h⟩
    refine ⟨fun h => ?_, fun h => ?_⟩
    · have h' : z ∉ keep ∨ 1 < (xs'.drop b).count z := by simpa using h
      walk_at "go"
      refine ⟨_, _, [], ⟨rfl, rfl, xs'.length - 1 - i, by rw [e1], by omega, by omega, fun b2 kd2 keep2 e2 hk2 => ?_⟩, rfl⟩
      cases e2
      cases kd_inj hkd hk2
      exact free.mpr h'
    · have h' : ¬ (z ∉ keep ∨ 1 < (xs'.drop b).count z) := by
        intro q
        have : (!decide (z ∈ keep) || decide (1 < (xs'.drop b).count z)) = true := by simpa using q
        rw [this] at h; cases h
      walk_at "go"
      refine ⟨_, _, rfl, rfl, fun j h1 h2 => ?_⟩
      by_cases q : j = xs'.length - 1 - i
      · subst q; exact fun z => h' (free.mp z)
      · exact hno j (by omega) h2
  · rintro δ' μ' ⟨x, y, rfl, rfl, hno⟩
    obtain ⟨i, h1, h2, h3⟩ := hex
    exact absurd h3 (hno i (by omega) h2)
/-! ### lower -/
theorem sc39 : FnScope ["site", "base", "height", "keep"] ["site", "base", "height", "keep"] (defScope (topS 39)) := ⟨rfl, rfl, rfl, by decide +kernel, rfl, by decide +kernel, by decide +kernel⟩
@[reducible] def Pre39 : SPre := fun args xs r L => ∃ (b h : Nat) (kd : Sl) (keep : List Str), args = [dI b, dI h, kd] ∧ Kd kd keep ∧ xs.length < 5000 ∧ L.length < 5000 ∧ (h < xs.length → nd ltS keep ≤ r ∧ nd ltS keep ≤ h ∧ b ≤ h - r)
structure Low (xs xs' : List Str) (L L' : List Ins) (r b h : Nat) (keep : List Str) : Prop where
  len : xs'.length = if h < xs.length then h else xs.length
  tk : xs'.take b = xs.take b
  kp : ∀ v, v ∈ keep → v ∈ xs.drop b → v ∈ xs'.drop b
  rn : ∀ (S : List Str) (f : Nat), f ≤ b → Runs r f S L xs → Runs r f S L' xs'
  ll : L'.length + 2 * xs'.length ≤ L.length + 2 * xs.length
@[reducible] def Post39 : SPost := fun args xs r L w xs' L' => w = dN ∧ ∀ (b h : Nat) (kd : Sl) (keep : List Str), args = [dI b, dI h, kd] → Kd kd keep → Low xs xs' L L' r b h keep
theorem ok39 (T : Tx K mg) : FnOk P w K mg base CX0 5 T.f39.a T.f39.d ["site", "base", "height", "keep"] (spG K (stS T.aS Pre39 Post39)) := by
  refine fn_go T.f39.F sc39 (st_len (n := 3) fun args xs r L h => by obtain ⟨b, h, kd, keep, e, _⟩ := h; rw [e]; rfl) (fun cdv A outer s H E hr => ⟨_, (pss_one (ps_while PassesOwn.never (pt_cmpR op_gt (pe_prop (pv 0) T.clS T.ph (ok37_1 T) (hr.mono (by decide)) T.b1 .nil pass0 rfl) (pv 2) (nomark _)) (pss_one (ps_expr (pe_meth (pv 0) T.clS T.f37_5.m (ok37_5 T) (hr.mono (by decide)) T.f37_5.b .nil pass0 (pa_cons (pe_call (ok38 T) (hr.mono (by decide)) (by rfl) T.f38.g T.f38.F.kp T.f38.b .nil pass0 (pa_cons (pv 0) (pa_cons (pv 1) (pa_cons (pv 3) pa_nil)))) pa_nil)))))), fun g ws μ k eg h => ?_⟩)
  refine st_go eg h fun p dx c m xs r L args e hp eg => ?_
  obtain ⟨b, h, kd, keep, rfl, hkd, hx, hL, hpre⟩ := hp
  have hcl := T.clS
  have hnc := T.na_cells
  walk_at "cx"
  refine go_while (fun n δ' μ' => ∃ xs' L', δ' = [.va (.ref p), dI b, dI h, kd] ∧ μ' = siteM T.aS p dx c m xs' r L' ++ [] ∧ n = xs'.length ∧ (h < xs.length → h ≤ xs'.length) ∧ (¬ h < xs.length → xs' = xs) ∧ xs'.length ≤ xs.length ∧
    xs'.take b = xs.take b ∧ (∀ v, v ∈ keep → v ∈ xs.drop b → v ∈ xs'.drop b) ∧ (∀ (S : List Str) (f : Nat), f ≤ b → Runs r f S L xs → Runs r f S L' xs') ∧ L'.length + 2 * xs'.length ≤ L.length + 2 * xs.length) xs.length
    ⟨xs, L, rfl, rfl, rfl, fun _ => by omega, fun _ => rfl, Nat.le_refl _, rfl, fun _ _ q => q, fun _ _ _ q => q, Nat.le_refl _⟩ ?_
  rintro n δ' μ' ⟨xs', L', rfl, rfl, rfl, h1, h2, h3, h4, h5, h6, h7⟩
  walk_at "go"
  refine ⟨fun ht => ?_, fun ht => ?_⟩
  · have ht' : h < xs'.length := by
      have := of_decide_eq_true ht
      omega
    have hlt : h < xs.length := by omega
    obtain ⟨k1, k2, k3⟩ := hpre hlt
    have hfree := free_exists (base := b) ltS_ord (xs := xs') (keep := keep) (k := r) (by omega) (by omega) k1
    walk_at "go"
    refine ev_kd hkd rfl ?_
    walk_at "go"
    refine ⟨p, dx, c, m, xs', r, L', [], _, rfl, rfl, ⟨b, kd, keep, rfl, hkd, by omega, hfree⟩, ?_⟩
    rintro w xs2 L2 ⟨rfl, rfl, i, rfl, i1, i2, i3⟩
    have hF := i3 b kd keep rfl hkd
    walk_at "go"
    refine ⟨_, _, _, rfl, ⟨⟨i, rfl, i2⟩, by omega, by omega⟩, ?_⟩
    rintro w xs3 L3 ⟨i', e1, rfl, rfl, rfl⟩
    have e1' : i = i' := by
      simp only [List.cons.injEq, Sl.da.injEq, PyData.int.injEq, and_true] at e1
      omega
    subst e1'
    have hb : b ≤ i := by omega
    have hrl := rem_len xs2 i
    have hml := rmL_len xs2 i L2
    refine ⟨(rem xs2 i).length, by omega, _, _, rfl, rfl, rfl, fun _ => by omega, fun z => absurd hlt z, by omega, (rem_take i2 hb).trans h4, fun v hv hx => free_kept hF hb hv (h5 v hv hx), fun S f hf hR => rmL_runs (h6 S f hf hR) i2 (by omega) (by omega), by omega⟩
  · have ht' : ¬ h < xs'.length := by
      have := of_decide_eq_false ht
      omega
    refine ⟨xs', L', [], ⟨rfl, fun b2 h2' kd2 keep2 e2 hk2 => ?_⟩, rfl⟩
    cases e2
    cases kd_inj hkd hk2
    refine ⟨?_, h4, h5, h6, h7⟩
    by_cases q : h < xs.length
    · rw [if_pos q]; have := h1 q; omega
    · rw [if_neg q, h2 q]
/-! ### index_of -/
theorem sc41 : FnScope ["site", "value", "least", "index"] ["site", "value", "least"] (defScope (topS 41)) := ⟨rfl, rfl, rfl, by decide +kernel, rfl, by decide +kernel, by decide +kernel⟩
@[reducible] def Pre41 : SPre := fun args xs _ _ => ∃ (v : Str) (lo : Nat), args = [dS v, dI lo] ∧ xs.length < 10000 ∧ lo < 100000 ∧ ∃ i, lo ≤ i ∧ xs[i]? = some v
@[reducible] def Post41 : SPost := fun args xs _ L w xs' L' => xs' = xs ∧ L' = L ∧ ∃ i : Nat, w = dI i ∧ ∀ (v : Str) (lo : Nat), args = [dS v, dI lo] → lo ≤ i ∧ xs[i]? = some v
theorem ok41 (T : Tx K mg) : FnOk P w K mg base CX0 3 T.f41.a T.f41.d ["site", "value", "least"] (spG K (stS T.aS Pre41 Post41)) := by
  refine fn_go T.f41.F sc41 (st_len (n := 2) fun args xs r L h => by obtain ⟨v, lo, h, _⟩ := h; rw [h]; rfl) (fun cdv A outer s H E hr => ⟨_, (pss_cons (ps_for PassesOwn.never rfl (pi_range3 rfl T.z_range (pa_cons (pe_op op_sub (pe_prop (pv 0) T.clS T.ph (ok37_1 T) (hr.mono (by decide)) T.b1 .nil pass0 rfl) pe_int) (pa_cons (pe_op op_sub (pv 2) pe_int) (pa_cons (pe_un un_neg pe_int) pa_nil)))) (pg_name (i := 3) sc41.nd rfl (.inl rfl)) (pss_one (ps_if (pt_cmpR op_eq (pe_ix (r := rIx K) ix_seq (pe_fldK (K := K) rfl (pv 0) rfl) (pv 3) (fun _ _ => rfl)) (pv 1) (nomark _)) (pss_one (ps_ret (pv 3))) pss_nil)))
      (pss_one (ps_ret pe_non))), fun g ws μ k eg h => ?_⟩)
  refine st_go eg h fun p dx c m xs r L args e hp eg => ?_
  obtain ⟨v, lo, rfl, hx, hlo, hex⟩ := hp
  have hcl := T.clS
  have hnc := T.na_cells
  walk_at "cx"
  refine go_seq (go_forD ?_)
  walk_at "go"
  refine ⟨_, _, rfl, small_of (by omega) (by omega), small_of (by omega) (by omega), fun n δ' μ' => ∃ x, δ' = [.va (.ref p), dS v, dI lo, x] ∧ μ' = siteM T.aS p dx c m xs r L ++ [] ∧ ∀ j, xs.length - n ≤ j → j < xs.length → xs[j]? ≠ some v, ⟨_, rfl, rfl, fun j h1 h2 => by omega⟩, ?_, ?_⟩
  · rintro i δ' μ' hi ⟨x, rfl, rfl, hno⟩
    have hi2 : i < xs.length := by omega
    have e1 : ((xs.length : Int) - 1 - (i : Int)) = ((xs.length - 1 - i : Nat) : Int) := by omega
    obtain ⟨z, hz⟩ : ∃ z, xs[xs.length - 1 - i]? = some z := ⟨_, List.getElem?_eq_getElem (by omega)⟩
    walk_at "go"
    refine o_ixC e1 hz ?_
    walk_at "go"
    refine ⟨fun h => ?_, fun h => ?_⟩
    · have h' : z = v := of_decide_eq_true h
      walk_at "go"
      refine ⟨_, _, [], ⟨rfl, rfl, xs.length - 1 - i, by rw [e1], fun v2 lo2 e2 => ?_⟩, rfl⟩
      simp only [List.cons.injEq, Sl.da.injEq, PyData.int.injEq, PyData.str.injEq, and_true] at e2
      obtain ⟨rfl, e3⟩ := e2
      exact ⟨by omega, by rw [hz, h']⟩
    · have h' : ¬ z = v := of_decide_eq_false h
      walk_at "go"
      refine ⟨_, rfl, rfl, fun j h1 h2 => ?_⟩
      by_cases q : j = xs.length - 1 - i
      · subst q; rw [hz]; exact fun z => h' (by simpa using z)
      · exact hno j (by omega) h2
  · rintro δ' μ' ⟨x, rfl, rfl, hno⟩
    obtain ⟨i, h1, h2⟩ := hex
    have := (List.getElem?_eq_some_iff.mp h2).1
    exact absurd h2 (hno i (by omega) this)
/-! ### spare_index -/
theorem sc42 : FnScope ["site", "floor", "value", "needed", "index", "other"] ["site", "floor", "value", "needed"] (defScope (topS 42)) := ⟨rfl, rfl, rfl, by decide +kernel, rfl, by decide +kernel, by decide +kernel⟩
def SpareN (xs : List Str) (f : Nat) (v : Str) (nd : List Str) (i : Nat) : Prop := ∃ x, xs[i]? = some x ∧ x ≠ v ∧ (x ∉ nd ∨ 1 < (xs.drop f).count x)
@[reducible] def Pre42 : SPre := fun args xs _ _ => ∃ (f : Nat) (v : Str) (nd : List Str), args = [dI f, dS v, .da (tS nd)] ∧ xs.length < 10000 ∧ f < 10000
@[reducible] def Post42 : SPost := fun args xs _ L w xs' L' => xs' = xs ∧ L' = L ∧ ∀ (f : Nat) (v : Str) (nd : List Str), args = [dI f, dS v, .da (tS nd)] → (w = dN ∧ ∀ i, f < i → i < xs.length → ¬ SpareN xs f v nd i) ∨ ∃ i : Nat, w = dI i ∧ f < i ∧ i < xs.length ∧ SpareN xs f v nd i
theorem ok42 (T : Tx K mg) : FnOk P w K mg base CX0 3 T.f42.a T.f42.d ["site", "floor", "value", "needed"] (spG K (stS T.aS Pre42 Post42)) := by
  refine fn_go T.f42.F sc42 (st_len (n := 3) fun args xs r L h => by obtain ⟨f, v, nd, h, _⟩ := h; rw [h]; rfl) (fun cdv A outer s H E hr => ⟨_, (pss_cons (ps_for PassesOwn.never rfl (pi_range3 rfl T.z_range (pa_cons (pe_op op_sub (pe_prop (pv 0) T.clS T.ph (ok37_1 T) (hr.mono (by decide)) T.b1 .nil pass0 rfl) pe_int) (pa_cons (pv 1) (pa_cons (pe_un un_neg pe_int) pa_nil)))) (pg_name (i := 4) sc42.nd rfl (.inl rfl)) (pss_cons (ps_set (i := 5) sc42.nd rfl (.inl rfl) (pe_ix (r := rIx K) ix_seq (pe_fldK (K := K) rfl (pv 0) rfl) (pv 4) (fun _ _ => rfl)))
      (pss_one (ps_if (PW.pt (pw_and (pt_cmpR op_ne (pv 5) (pv 2) (nomark _)) (pw_and1 (PW.pt (pw_or (pt_cmpR (r := rIn K true) op_notIn_seq (pv 5) (pv 3) (by rfl)) (pw_or1 (pt_cmpR op_gt (pe_bmK (K := K) rfl PySem.F.plainAttrs_list PySem.F.slot_list_count PySem.F.type_list_count mt_lcountS (pe_slice (r := rSlL K) sl_list (pe_fldK (K := K) rfl (pv 0) rfl) (po_some (pv 1)) po_none) (pa_cons (pv 5) pa_nil)) pe_int (nomark _)))))))) (pss_one (ps_ret (pv 4))) pss_nil))))
      (pss_one (ps_ret pe_non))), fun g ws μ k eg h => ?_⟩)
  refine st_go eg h fun p dx c m xs r L args e hp eg => ?_
  obtain ⟨f, v, nd, rfl, hx, hf⟩ := hp
  have hcl := T.clS
  have hnc := T.na_cells
  have inj : ∀ (f2 : Nat) (v2 : Str) (nd2 : List Str), ([dI f, dS v, .da (tS nd)] : List Sl) = [dI f2, dS v2, .da (tS nd2)] → f = f2 ∧ v = v2 ∧ nd = nd2 := fun f2 v2 nd2 e => by
    simp only [List.cons.injEq, Sl.da.injEq, PyData.int.injEq, PyData.str.injEq, PyData.tuple.injEq, and_true] at e
    exact ⟨by omega, e.2.1, map_str_inj e.2.2⟩
  walk_at "cx"
  refine go_seq (go_forD ?_)
  walk_at "go"
  refine ⟨_, _, rfl, small_of (by omega) (by omega), small_of (by omega) (by omega), fun n δ' μ' => ∃ x y, δ' = [.va (.ref p), dI f, dS v, .da (tS nd), x, y] ∧ μ' = siteM T.aS p dx c m xs r L ++ [] ∧ ∀ j, xs.length - n ≤ j → j < xs.length → ¬ SpareN xs f v nd j, ⟨_, _, rfl, rfl, fun j h1 h2 => by omega⟩, ?_, ?_⟩
  · rintro i δ' μ' hi ⟨x, y, rfl, rfl, hno⟩
    have hi2 : i < xs.length := by omega
    have e1 : ((xs.length : Int) - 1 - (i : Int)) = ((xs.length - 1 - i : Nat) : Int) := by omega
    obtain ⟨z, hz⟩ : ∃ z, xs[xs.length - 1 - i]? = some z := ⟨_, List.getElem?_eq_getElem (by omega)⟩
    walk_at "go"
    refine o_ixC e1 hz ?_
    refine go_if (eb_andP ?_)
    walk_at "go"
    refine ⟨!decide (z ∈ nd) || decide (1 < (xs.drop f).count z), fun _ => ?_, ?_⟩
    · refine eb_orP ?_
      walk_at "go"
      refine ⟨decide (1 < (xs.drop f).count z), fun _ => ?_, rfl, rfl⟩
      walk_at "go"
      refine os_cells rfl ?_
      walk_at "go"
      exact ⟨decide_eq_decide.mpr (by omega), rfl⟩
    have sp : SpareN xs f v nd (xs.length - 1 - i) ↔ (z ≠ v ∧ (z ∉ nd ∨ 1 < (xs.drop f).count z)) := by
      constructor
      · rintro ⟨x, hx1, hx2⟩
        rw [hz] at hx1; cases hx1
        exact hx2
      · exact fun h => ⟨z, hz, h⟩
    refine ⟨fun h => ?_, fun h => ?_⟩
    · have h' : z ≠ v ∧ (z ∉ nd ∨ 1 < (xs.drop f).count z) := by simpa using h
      walk_at "go"
      refine ⟨_, _, [], ⟨rfl, rfl, fun f2 v2 nd2 e2 => ?_⟩, rfl⟩
      obtain ⟨rfl, rfl, rfl⟩ := inj f2 v2 nd2 e2
      exact .inr ⟨xs.length - 1 - i, by rw [e1], by omega, by omega, sp.mpr h'⟩
    · have h' : ¬ (z ≠ v ∧ (z ∉ nd ∨ 1 < (xs.drop f).count z)) := by
        intro q
        have : (!decide (z = v) && (!decide (z ∈ nd) || decide (1 < (xs.drop f).count z))) = true := by simpa using q
        rw [this] at h; cases h
      walk_at "go"
      refine ⟨_, _, rfl, rfl, fun j h1 h2 => ?_⟩
      by_cases q : j = xs.length - 1 - i
      · subst q; exact fun z => h' (sp.mp z)
      · exact hno j (by omega) h2
  · rintro δ' μ' ⟨x, y, rfl, rfl, hno⟩
    walk_at "go"
    refine ⟨_, _, [], ⟨rfl, rfl, fun f2 v2 nd2 e2 => ?_⟩, rfl⟩
    obtain ⟨rfl, rfl, rfl⟩ := inj f2 v2 nd2 e2
    exact .inl ⟨rfl, fun i h1 h2 => hno i (by omega) h2⟩
/-! ### lacking -/
theorem sc45 : FnScope ["site", "base", "target", "value"] ["site", "base", "target"] (defScope (topS 45)) := ⟨rfl, rfl, rfl, by decide +kernel, rfl, by decide +kernel, by decide +kernel⟩
@[reducible] def Pre45 : SPre := fun args xs _ _ => ∃ (b : Nat) (U : List Str), args = [dI b, .da (tS U)] ∧ xs.length < 10000 ∧ U.length < 10000
@[reducible] def Post45 : SPost := fun args xs _ L w xs' L' => xs' = xs ∧ L' = L ∧ ∀ (b : Nat) (U : List Str), args = [dI b, .da (tS U)] → (w = dN ∧ ∀ v, v ∈ U.drop b → ¬ (xs.drop b).count v < (U.drop b).count v) ∨ ∃ v, w = dS v ∧ Lack U xs b v
theorem ok45 (T : Tx K mg) : FnOk P w K mg base CX0 2 T.f45.a T.f45.d ["site", "base", "target"] (spG K (stS T.aS Pre45 Post45)) := by
  refine fn_go T.f45.F sc45 (st_len (n := 2) fun args xs r L h => by obtain ⟨b, U, h, _⟩ := h; rw [h]; rfl) (fun cdv A outer s H E hr => ⟨_, (pss_cons (ps_for PassesOwn.never rfl (pi_tup (pe_slice (r := rSlF K) sl_tupF (pv 2) (po_some (pv 1)) po_none)) (pg_name (i := 3) sc45.nd rfl (.inl rfl)) (pss_one (ps_if (pt_cmpR op_lt (pe_bmK (K := K) rfl PySem.F.plainAttrs_list PySem.F.slot_list_count PySem.F.type_list_count mt_lcountS (pe_slice (r := rSlL K) sl_list (pe_fldK (K := K) rfl (pv 0) rfl) (po_some (pv 1)) po_none) (pa_cons (pv 3) pa_nil)) (pe_bmT (r := rCntT K) PySem.F.slot_tuple_count PySem.F.type_tuple_count mt_tcount (pe_slice (r := rSlF K) sl_tupF (pv 2) (po_some (pv 1)) po_none) (pa_cons (pv 3) pa_nil)) (nomark _)) (pss_one (ps_ret (pv 3))) pss_nil)))
      (pss_one (ps_ret pe_non))), fun g ws μ k eg h => ?_⟩)
  refine st_go eg h fun p dx c m xs r L args e hp eg => ?_
  obtain ⟨b, U, rfl, hx, hU⟩ := hp
  have hcl := T.clS
  have hnc := T.na_cells
  have inj : ∀ (b2 : Nat) (U2 : List Str), ([dI b, .da (tS U)] : List Sl) = [dI b2, .da (tS U2)] → b = b2 ∧ U = U2 := fun b2 U2 e => by
    simp only [List.cons.injEq, Sl.da.injEq, PyData.int.injEq, PyData.tuple.injEq, and_true] at e
    exact ⟨by omega, map_str_inj e.2⟩
  walk_at "cx"
  refine go_seq (go_forT ?_)
  walk_at "go"
  refine os_from rfl ?_
  walk_at "go"
  refine ⟨fun n δ' μ' => ∃ x, δ' = [.va (.ref p), dI b, .da (tS U), x] ∧ μ' = siteM T.aS p dx c m xs r L ++ [] ∧ ∀ v, v ∈ (U.drop b).take n → ¬ (xs.drop b).count v < (U.drop b).count v, ⟨_, rfl, rfl, fun v hv => by simp at hv⟩, ?_, ?_⟩
  · rintro i δ' μ' hi ⟨x, rfl, rfl, hno⟩ d hd
    rw [List.length_map] at hi
    rw [List.getElem?_map, List.getElem?_eq_getElem hi] at hd
    cases hd
    walk_at "go"
    refine os_cells rfl ?_
    walk_at "go"
    refine os_from rfl ?_
    walk_at "go"
    refine ⟨fun h => ?_, fun h => ?_⟩
    · have h' := of_decide_eq_true h
      walk_at "go"
      refine ⟨_, _, [], ⟨rfl, rfl, fun b2 U2 e2 => ?_⟩, rfl⟩
      obtain ⟨rfl, rfl⟩ := inj b2 U2 e2
      exact .inr ⟨_, rfl, List.getElem_mem _, by omega⟩
    · have h' := of_decide_eq_false h
      walk_at "go"
      refine ⟨_, rfl, rfl, fun v hv => ?_⟩
      rw [List.take_add_one, List.getElem?_eq_getElem hi, Option.toList_some, List.mem_append, List.mem_singleton] at hv
      rcases hv with hv | rfl
      · exact hno v hv
      · omega
  · rintro δ' μ' ⟨x, rfl, rfl, hno⟩
    rw [List.length_map, List.take_length] at hno
    walk_at "go"
    refine ⟨_, _, [], ⟨rfl, rfl, fun b2 U2 e2 => ?_⟩, rfl⟩
    obtain ⟨rfl, rfl⟩ := inj b2 U2 e2
    exact .inl ⟨rfl, hno⟩
/-! ### is_extra -/
theorem sc48 : FnScope ["site", "base", "target", "index", "value"] ["site", "base", "target", "index"] (defScope (topS 48)) := ⟨rfl, rfl, rfl, by decide +kernel, rfl, by decide +kernel, by decide +kernel⟩
def extraB (U xs : List Str) (b i : Nat) : Bool := match xs[i]? with
  | some x => decide ((U.drop b).count x < (xs.drop b).count x)
  | none => false
@[reducible] def Pre48 : SPre := fun args xs _ _ => ∃ (b i : Nat) (U : List Str), args = [dI b, .da (tS U), dI i] ∧ xs.length < 10000 ∧ U.length < 10000 ∧ i < xs.length
@[reducible] def Post48 : SPost := fun args xs _ L w xs' L' => xs' = xs ∧ L' = L ∧ ∀ (b i : Nat) (U : List Str), args = [dI b, .da (tS U), dI i] → w = dB (extraB U xs b i)
theorem ok48 (T : Tx K mg) : FnOk P w K mg base CX0 2 T.f48.a T.f48.d ["site", "base", "target", "index"] (spG K (stS T.aS Pre48 Post48)) := by
  refine fn_go T.f48.F sc48 (st_len (n := 3) fun args xs r L h => by obtain ⟨b, i, U, h, _⟩ := h; rw [h]; rfl) (fun cdv A outer s H E hr => ⟨_, (pss_cons (ps_set (i := 4) sc48.nd rfl (.inl rfl) (pe_ix (r := rIx K) ix_seq (pe_fldK (K := K) rfl (pv 0) rfl) (pv 3) (fun _ _ => rfl)))
      (pss_one (ps_ret (pe_cmpR op_gt (pe_bmK (K := K) rfl PySem.F.plainAttrs_list PySem.F.slot_list_count PySem.F.type_list_count mt_lcountS (pe_slice (r := rSlL K) sl_list (pe_fldK (K := K) rfl (pv 0) rfl) (po_some (pv 1)) po_none) (pa_cons (pv 4) pa_nil)) (pe_bmT (r := rCntT K) PySem.F.slot_tuple_count PySem.F.type_tuple_count mt_tcount (pe_slice (r := rSlF K) sl_tupF (pv 2) (po_some (pv 1)) po_none) (pa_cons (pv 4) pa_nil)) (nomark _))))), fun g ws μ k eg h => ?_⟩)
  refine st_go eg h fun p dx c m xs r L args e hp eg => ?_
  obtain ⟨b, i, U, rfl, hx, hU, hi⟩ := hp
  have hcl := T.clS
  have hnc := T.na_cells
  obtain ⟨z, hz⟩ : ∃ z, xs[i]? = some z := ⟨_, List.getElem?_eq_getElem hi⟩
  walk_at "cx"
  walk_at "go"
  refine o_ixC rfl hz ?_
  walk_at "go"
  refine os_cells rfl ?_
  walk_at "go"
  refine os_from rfl ?_
  walk_at "go"
  refine ⟨_, _, [], ⟨rfl, rfl, fun b2 i2 U2 e2 => ?_⟩, rfl⟩
  simp only [List.cons.injEq, Sl.da.injEq, PyData.int.injEq, PyData.tuple.injEq, and_true] at e2
  have e3 : b = b2 := by omega
  have e4 : i = i2 := by omega
  cases e3; cases e4
  cases map_str_inj e2.2.1
  unfold extraB
  rw [hz]
  exact congrArg dB (decide_eq_decide.mpr (by omega))
end
end De
end
section
set_option Elab.async false
set_option linter.all false
set_option maxRecDepth 100000
set_option maxHeartbeats 4000000
/-! building.py: double, settle, climb, finish -/
namespace De
open PySem PySem.Spec PyProof.Rows L2
/-! ### promises whose outcome is told together with the premises -/
abbrev SRel := List Sl → List Str → Nat → List Ins → (Sl → List Str → List Ins → Prop) → Prop
def stP (C : Addr) (R : SRel) : Spec := fun ws μ k => ∃ p dx c m xs r L args, ws = .va (.ref p) :: args ∧ μ = siteM C p dx c m xs r L ∧ ∃ Po, R args xs r L Po ∧ ∀ w xs' L', Po w xs' L' → k w (siteM C p dx c m xs' r L')
def spAE (C p dx c m : Addr) (r : Nat) (Po : Sl → List Str → List Ins → Prop) : AE :=
  { nx := fun _ μ' => ∃ xs' L' ext, Po dN xs' L' ∧ μ' = siteM C p dx c m xs' r L' ++ ext, rt := fun w μ' => ∃ xs' L' ext, Po w xs' L' ∧ μ' = siteM C p dx c m xs' r L' ++ ext }
section
variable {K : PySem.W.Frag} {g : Gr} {δ : List Sl} {μ : Mus} {k : Sl → Mus → Prop} {F : AE} {t u : TS} {te ta : TE} {tas : TA} {C p dx c m : Addr} {xs : List Str} {r : Nat} {L : List Ins} {rest : Mus} {E : XK} {R : SRel}
theorem sp_go {N : List Str} {ws : List Sl} (eg : g.ms = μ.map (·.1)) (h : stP C R ws μ k)
    (b : ∀ p dx c m xs r L args Po, R args xs r L Po → g.ms = [p, c, m] → Go K g (slots0 N (.va (.ref p) :: args)) (siteM C p dx c m xs r L ++ []) t (spAE C p dx c m r Po)) : Go K g (slots0 N ws) μ t (endAE g k) := by
  obtain ⟨p, dx, c, m, xs, r, L, args, rfl, rfl, Po, hR, hk⟩ := h
  have eg' : g.ms = [p, c, m] := eg
  refine (b p dx c m xs r L args Po hR eg').imp (fun _ m' e => ?_) (fun w m' e => ?_) (fun _ _ h => h.elim) (fun _ _ h => h.elim)
  · obtain ⟨xs', L', ext, h1, rfl⟩ := e
    exact ⟨_, [], List.sublist_append_left _ _, by rw [eg']; rfl, hk _ _ _ h1⟩
  · obtain ⟨xs', L', ext, h1, rfl⟩ := e
    exact ⟨_, [], List.sublist_append_left _ _, by rw [eg']; rfl, hk _ _ _ h1⟩
theorem sp_len {n : Nat} (h : ∀ args xs r L Po, R args xs r L Po → args.length = n) : ∀ ws μ k, stP C R ws μ k → ws.length = n + 1 := fun ws μ k ⟨p, dx, c, m, xs, r, L, args, e, _, Po, hR, _⟩ => by
  rw [e, List.length_cons, h _ _ _ _ _ hR]
theorem ev_callQ (h : EvA K g δ μ tas fun ws μ1 => ∃ p dx c m xs r L rest args, ws = .va (.ref p) :: args ∧ μ1 = siteM C p dx c m xs r L ++ rest ∧ ∃ Po, R args xs r L Po ∧ ∀ w xs' L', Po w xs' L' → k w (siteM C p dx c m xs' r L' ++ rest)) : Ev K g δ μ (tCall (spG K (stP C R)) [] E tas) k :=
  ev_call fun σ H B cc Q hq => h σ H B cc Q fun ws μ1 vs H1 B1 ⟨p, dx, c, m, xs, r, L, rest, args, e1, e2, Po, hR, hk⟩ => hq ws μ1 vs H1 B1 (by
    subst e1 e2
    refine ⟨[0, 1, 2], siteM C p dx c m xs r L, rfl, by decide, fun w μ' => ∃ xs' L', Po w xs' L' ∧ μ' = siteM C p dx c m xs' r L', ⟨p, dx, c, m, xs, r, L, args, rfl, rfl, Po, hR, fun w xs' L' hp => ⟨xs', L', hp, rfl⟩⟩, fun w μf' news _ ⟨xs', L', hp, e⟩ => ?_⟩
    subst e
    show k w (siteM C p dx c m xs' r L' ++ rest ++ [])
    rw [List.append_nil]
    exact hk _ _ _ hp)
/-- with a middle -/
theorem go_mid (Mid : List Sl → Mus → Prop) (h1 : Go K g δ μ t { F with nx := Mid }) (h2 : ∀ δ' μ', Mid δ' μ' → Go K g δ' μ' u F) : Go K g δ μ (tSeq t u) F :=
  go_seq (h1.imp (fun a b x => h2 a b x) (fun _ _ x => x) (fun _ _ x => x) (fun _ _ x => x))
theorem go_par {i j : Nat} (h : EvA K g δ μ tas fun ws μ1 => ∃ w1 w2, ws = [w1, w2] ∧ F.nx ((δ.set i w1).set j w2) μ1) : Go K g δ μ (tPar i j tas) F := fun σ H B cc D f =>
  h σ H B cc _ fun ws μ1 vs H1 B1 ⟨w1, w2, e, hk⟩ c1 s1 r1 => by
    subst e
    obtain ⟨v, v', rfl, r2, r3⟩ := rl2 r1
    exact ⟨v, v', rfl, f.nx _ _ _ _ _ hk ((c1.store r2).store r3) s1⟩
end
theorem atI_lastOf {α : Type} {l : List α} (h : l ≠ []) : atI l (-1) = some (l.getLast h) := by
  have e := List.dropLast_concat_getLast h
  have := atI_last l.dropLast (l.getLast h)
  rw [e] at this
  exact this
/-- the last of the filtered places -/
theorem last_range {n : Nat} {q : Nat → Bool} (h : ∃ i, i < n ∧ q i = true) : ∃ i, i < n ∧ q i = true ∧ ∀ (α : Type) (f : Nat → α), atI (((List.range n).filter q).map f) (-1) = some (f i) := by
  have hne : (List.range n).filter q ≠ [] := by
    obtain ⟨i, h1, h2⟩ := h
    exact List.ne_nil_of_mem (List.mem_filter.mpr ⟨List.mem_range.mpr h1, h2⟩)
  have hm := List.mem_filter.mp (List.getLast_mem hne)
  refine ⟨((List.range n).filter q).getLast hne, List.mem_range.mp hm.1, hm.2, fun α f => ?_⟩
  have hne2 : ((List.range n).filter q).map f ≠ [] := by simpa using hne
  rw [atI_lastOf hne2, List.getLast_map]
local macro_rules | `(tactic| walk_at "de") => `(tactic| first
  | with_reducible refine go_seq ?_
  | with_reducible refine go_set ?_
  | with_reducible refine go_ret ?_
  | with_reducible refine go_if ?_
  | with_reducible refine go_next ?_
  | with_reducible refine go_drop ?_
  | ((with_reducible apply ev_da); exact rfl)
  | ((with_reducible apply ev_va); exact rfl)
  | with_reducible refine ev_c ?_
  | with_reducible refine ev_op ?_
  | with_reducible refine ev_un ?_
  | with_reducible refine ea_nil ?_
  | with_reducible refine ea_cons ?_
  | with_reducible refine ev_sortset ?_
  | ((with_reducible apply ev_cells); (focus assumption); (focus assumption))
  | ((with_reducible apply ev_reach); (focus assumption); (focus assumption))
  | ((with_reducible apply ev_made); (focus assumption); (focus assumption))
  | with_reducible refine ev_height ?_
  | ((with_reducible apply ev_methS); (focus (decide +kernel)); (focus (decide +kernel)); (focus (decide +kernel)))
  | with_reducible refine ev_callS ?_
  | with_reducible refine ev_count ?_
  | with_reducible refine ev_tcount ?_
  | with_reducible refine oc_len_c ?_
  | with_reducible refine ev_cb ?_
  | with_reducible refine eb_test ?_
  | with_reducible refine eb_B ?_
  | with_reducible refine eb_and ?_
  | with_reducible refine eb_or ?_
  | with_reducible refine eb_not ?_
  | with_reducible refine ev_andV ?_
  | with_reducible refine ev_orV ?_
  | with_reducible refine ev_notV ?_
  | with_reducible refine ev_if ?_
  | with_reducible refine ev_sl ?_
  | with_reducible refine eo_no ?_
  | with_reducible refine eo_some ?_
  | with_reducible refine ev_tup' ?_
  | with_reducible refine ev_callX ?_
  | with_reducible refine ev_callP ?_
  | with_reducible refine ev_callNP ?_
  | with_reducible refine ev_call ?_
  | with_reducible refine ev_callN ?_
  | with_reducible refine ev_chain ?_
  | with_reducible refine o_I0 ?_
  | with_reducible refine o_eqI ?_
  | with_reducible refine o_neI ?_
  | with_reducible refine o_eqS ?_
  | with_reducible refine o_neS ?_
  | with_reducible refine o_isN ?_
  | with_reducible refine o_notN ?_
  | with_reducible refine o_ltS ?_
  | with_reducible refine o_U ?_
  | with_reducible refine oc_len_tS ?_
  | with_reducible refine oc_len_lS ?_
  | with_reducible refine oc_len_t ?_
  | with_reducible refine oc_len_l ?_
  | with_reducible refine o_ix0 ?_
  | with_reducible refine o_ix1 ?_
  | with_reducible refine ev_dnew ?_
  | with_reducible refine oc_isiT ?_
  | with_reducible refine oc_isiTL ?_
  | with_reducible refine oc_isiI ?_
  | with_reducible refine oc_isiIB ?_
  | with_reducible refine oc_isiS ?_
  | with_reducible refine oc_min2 ?_
  | with_reducible refine oc_max2 ?_
  | with_reducible refine oc_abs ?_
  | with_reducible refine oc_tup_lS ?_
  | with_reducible refine oc_tup_l ?_
  | with_reducible refine o_inF ?_
  | with_reducible refine o_inT ?_
  | with_reducible refine o_inLF ?_
  | with_reducible refine o_inLT ?_
  | with_reducible refine eb_yes ?_
  | (refine Exists.intro _ (Exists.intro _ (Exists.intro _ (Exists.intro _ (Exists.intro _ (Exists.intro _ (Exists.intro _ (Exists.intro _ (And.intro rfl (And.intro rfl ?_))))))))))
  | (refine Exists.intro _ (And.intro (show dats _ = some _ from rfl) (And.intro (show Nat.ble _ 60 = true from rfl) ?_)))
  | with_reducible refine Exists.intro _ (And.intro rfl ?_))
local macro_rules | `(tactic| walk_at "cx") => `(tactic| try simp only [cx_K, cx_K'])
local macro_rules | `(tactic| walk_at "go") => `(tactic| repeat walk_at "de")

section
variable {P : Program} {w : World} {K : PySem.W.Frag} {mg : Str → Option Value} {base : Heap}
/-! ### double -/
theorem sc43 : FnScope ["site", "floor", "value", "needed", "spare", "others", "index"] ["site", "floor", "value", "needed"] (defScope (topS 43)) := ⟨rfl, rfl, rfl, by decide +kernel, rfl, by decide +kernel, by decide +kernel⟩
def R43 : SRel := fun args xs r L Po => ∃ (f : Nat) (t : Str) (T : List Str), args = [dI f, dS t, .da (tS (T.drop (f + 1)))] ∧ T[f]? = some t ∧ t ∈ T.drop (f + 1) ∧ SetI ltS T r f xs ∧ (xs.drop f).count t = 1 ∧ xs.length < 5000 ∧ L.length < 20000 ∧
  Po = fun w xs' L' => w = dN ∧ SetI ltS T r f xs' ∧ 2 ≤ (xs'.drop f).count t ∧ (∀ S, Runs r f S L xs → Runs r f S L' xs') ∧ L'.length ≤ L.length + 6
def neB (xs : List Str) (t : Str) (i : Nat) : Bool := match xs[i]? with
  | some x => !decide (x = t)
  | none => false
theorem ok43 (T : Tx K mg) : FnOk P w K mg base CX0 6 T.f43.a T.f43.d ["site", "floor", "value", "needed"] (spG K (stP T.aS R43)) := by
  refine fn_go T.f43.F sc43 (sp_len (n := 3) fun args xs r L Po h => by obtain ⟨f, t, U, h, _⟩ := h; rw [h]; rfl) (fun cdv A outer s H E hr => ⟨_, (pss_cons (ps_if (pt_cmpR op_eq (pe_ix (r := rIx K) ix_seq (pe_fldK (K := K) rfl (pv 0) rfl) (pv 1) (fun _ _ => rfl)) (pv 2) (nomark _)) (pss_one (ps_expr (pe_meth (pv 0) T.clS T.f37_4.m (ok37_4 T) (hr.mono (by decide)) T.f37_4.b .nil pass0 (pa_cons (pv 1) pa_nil)))) pss_nil)
      (pss_cons (ps_set (i := 4) sc43.nd rfl (.inl rfl) (pe_call (ok42 T) (hr.mono (by decide)) (by rfl) T.f42.g T.f42.F.kp T.f42.b .nil pass0 (pa_cons (pv 0) (pa_cons (pv 1) (pa_cons (pv 2) (pa_cons (pv 3) pa_nil))))))
      (pss_cons (ps_if (pt_cmpR op_isN (pv 4) pe_non (nomark _)) (pss_cons (ps_setLc (i := 5) (g := gName 6) (tt := _) (own := [("index", 6)]) rfl sc43.nd rfl rfl (sw_true rfl rfl rfl (by decide +kernel)) (pi_range2 rfl T.z_range (pa_cons (pe_op op_add (pv 1) pe_int) (pa_cons (pe_prop (pv 0) T.clS T.ph (ok37_1 T) (hr.mono (by decide)) T.b1 .nil pass0 rfl) pa_nil))) (blkOk_by (N := ["site", "floor", "value", "needed", "spare", "others", "index"]) (sc := defScope (topS 43)) (own := [("index", 6)]) (by decide +kernel)) (fun _ _ _ _ _ => pg_name (i := 6) sc43.nd rfl (.inl rfl)) (fun _ _ _ _ _ => pts_one (pt_cmpR op_ne (pe_ix (r := rIx K) ix_seq (pe_fldK (K := K) rfl (pv 0) rfl) (pv 6) (fun _ _ => rfl)) (pv 2) (nomark _))) (fun _ _ _ _ _ => pv 6))
      (pss_cons (ps_expr (pe_meth (pv 0) T.clS T.f37_7.m (ok37_7 T) (hr.mono (by decide)) T.f37_7.b .nil pass0 (pa_cons (pe_ix (r := rIx K) ix_seq (pv 5) (pe_un un_neg pe_int) (fun _ _ => rfl)) (pa_cons (pv 1) pa_nil))))
      (pss_one (ps_set (i := 4) sc43.nd rfl (.inl rfl) (pe_op op_sub (pe_prop (pv 0) T.clS T.ph (ok37_1 T) (hr.mono (by decide)) T.b1 .nil pass0 rfl) pe_int))))) pss_nil)
      (pss_one (ps_expr (pe_meth (pv 0) T.clS T.f37_6.m (ok37_6 T) (hr.mono (by decide)) T.f37_6.b .nil pass0 (pa_cons (pv 4) (pa_cons (pe_call (ok41 T) (hr.mono (by decide)) (by rfl) T.f41.g T.f41.F.kp T.f41.b .nil pass0 (pa_cons (pv 0) (pa_cons (pv 2) (pa_cons (pe_op op_add (pv 1) pe_int) pa_nil)))) pa_nil)))))))), fun g ws μ k eg h => ?_⟩)
  refine sp_go eg h fun p dx c m xs r L args Po hR eg => ?_
  obtain ⟨f, t, U, rfl, ht, htU, hSet, hcnt, hx, hL, rfl⟩ := hR
  have hcl := T.clS
  have hnc := T.na_cells
  walk_at "cx"
  have hlen := hSet.len
  have hk2 := hSet.k2
  refine go_mid (fun δ' μ' => ∃ xs1 L1, δ' = [.va (.ref p), dI f, dS t, .da (tS (U.drop (f + 1))), .no, .no, .no] ∧ μ' = siteM T.aS p dx c m xs1 r L1 ++ [] ∧ SetI ltS U r f xs1 ∧ (xs1.drop f).count t = 1 ∧ xs1[f]? ≠ some t ∧ (∀ S, Runs r f S L xs → Runs r f S L1 xs1) ∧ L1.length ≤ L.length + 1) ?_ ?_
  · obtain ⟨z, hz⟩ : ∃ z, xs[f]? = some z := ⟨_, List.getElem?_eq_getElem (by omega)⟩
    walk_at "go"
    refine o_ixC rfl hz ?_
    walk_at "go"
    refine ⟨fun h => ?_, fun h => ?_⟩
    · have h' : z = t := of_decide_eq_true h
      rw [h'] at hz
      obtain ⟨d1, d2, d3⟩ := double_off hSet hcnt hz
      walk_at "go"
      refine ⟨_, _, _, rfl, ⟨⟨f, rfl, by omega⟩, by omega, by omega⟩, ?_⟩
      rintro w xs2 L2 ⟨i', e1, rfl, rfl, rfl⟩
      have e1' : f = i' := by
        simp only [List.cons.injEq, Sl.da.injEq, PyData.int.injEq, and_true] at e1
        omega
      subst e1'
      exact ⟨_, _, rfl, rfl, d1, d2, d3, fun S hS => exL_runs hS (by omega) (Nat.le_refl _) (by omega), exL_len xs f L⟩
    · have h' : ¬ z = t := of_decide_eq_false h
      walk_at "go"
      exact ⟨xs, L, rfl, rfl, hSet, hcnt, by rw [hz]; exact fun q => h' (by simpa using q), fun S q => q, by omega⟩
  rintro δ' μ' ⟨xs1, L1, rfl, rfl, hS1, hc1, hn1, hr1, hl1⟩
  have hlen1 := hS1.len
  walk_at "go"
  refine ⟨p, dx, c, m, xs1, r, L1, [], _, rfl, rfl, ⟨f, t, U.drop (f + 1), rfl, by omega, by omega⟩, ?_⟩
  rintro w xs2 L2 ⟨rfl, rfl, hsp⟩
  have hsp := hsp f t (U.drop (f + 1)) rfl
  refine go_mid (fun δ' μ' => ∃ xs3 L3 i y z, δ' = [.va (.ref p), dI f, dS t, .da (tS (U.drop (f + 1))), dI (i : Nat), y, z] ∧ μ' = siteM T.aS p dx c m xs3 r L3 ++ [] ∧ SetI ltS U r f xs3 ∧ (xs3.drop f).count t = 1 ∧ xs3[f]? ≠ some t ∧ (∀ S, Runs r f S L xs → Runs r f S L3 xs3) ∧ L3.length ≤ L.length + 3 ∧ Spare U xs3 f t i) ?_ ?_
  · rcases hsp with ⟨rfl, hno⟩ | ⟨i, rfl, i1, i2, i3⟩
    · obtain ⟨dn1, dn2⟩ := double_none ltS_ord hS1 htU hc1 hn1 fun i a b q => hno i a b q.2
      walk_at "go"
      refine ⟨fun _ => ?_, fun h => by simp [nonD] at h⟩
      refine go_seq (go_set (ev_compR2 (by simp) ?_))
      walk_at "go"
      refine ⟨(f : Int) + 1, (xs2.length : Int), rfl, small_of (by omega) (by omega), small_of (by omega) (by omega), fun d => neB xs2 t (intD d).toNat, id, by omega, by rw [eg]; simp, fun i hi μ' => ?_, ?_⟩
      · obtain ⟨z, hz⟩ : ∃ z, xs2[f + 1 + i]? = some z := ⟨_, List.getElem?_eq_getElem (by omega)⟩
        walk_at "go"
        refine o_ixC (n := f + 1 + i) (by omega) hz ?_
        walk_at "go"
        refine ⟨?_, rfl, fun _ => ?_⟩
        · show (!decide (z = t)) = neB xs2 t ((f : Int) + 1 + (i : Nat)).toNat
          rw [show ((f : Int) + 1 + (i : Nat)).toNat = f + 1 + i by omega]
          unfold neB
          rw [hz]
        · walk_at "go"
          exact ⟨rfl, rfl⟩
      rw [outD_ints (q := fun i => neB xs2 t (f + 1 + i)) fun i _ => by
        show neB xs2 t ((f : Int) + 1 + (i : Nat)).toNat = _
        rw [show ((f : Int) + 1 + (i : Nat)).toNat = f + 1 + i by omega]]
      obtain ⟨i, i1, i2, i3⟩ := last_range (n := ((xs2.length : Int) - ((f : Int) + 1)).toNat) (q := fun i => neB xs2 t (f + 1 + i)) (by
        obtain ⟨j, x, j1, j2, j3, j4⟩ := dn1
        refine ⟨j - (f + 1), by omega, ?_⟩
        unfold neB
        rw [show f + 1 + (j - (f + 1)) = j by omega, j3]
        simpa using j4)
      have hx4 : ∃ x, xs2[f + 1 + i]? = some x ∧ x ≠ t := by
        unfold neB at i2
        cases q : xs2[f + 1 + i]? with
        | none => rw [q] at i2; cases i2
        | some x => rw [q] at i2; exact ⟨x, rfl, by simpa using i2⟩
      obtain ⟨x, hx4, hx5⟩ := hx4
      obtain ⟨m1, m2, m3, m4⟩ := dn2 (f + 1 + i) x (by omega) (by omega) hx4 hx5
      walk_at "go"
      refine o_ixL (i3 _ _) ?_
      walk_at "go"
      refine ⟨_, _, _, rfl, ⟨⟨f + 1 + i, f, by simp, by omega, by omega⟩, by omega, by omega⟩, ?_⟩
      rintro w xs3 L3 ⟨s', i', e1, rfl, rfl, rfl⟩
      have e1' : f + 1 + i = s' ∧ f = i' := by
        simp only [List.cons.injEq, Sl.da.injEq, PyData.int.injEq, and_true] at e1
        omega
      obtain ⟨rfl, rfl⟩ := e1'
      walk_at "go"
      rw [show ((mov xs2 (f + 1 + i) f).length : Int) - 1 = ((xs2.length - 1 : Nat) : Int) by rw [mov_len]; omega]
      refine ⟨_, _, xs2.length - 1, _, _, rfl, rfl, m1, m2, m3, fun S hS => mvL_runs (hr1 S hS) (by omega) (by omega) (Nat.le_refl _) (by omega) (by omega) (by omega), ?_, m4⟩
      have := mvL_len xs2 (f + 1 + i) f L2
      omega
    · walk_at "go"
      refine ⟨fun h => by simp [nonD] at h, fun _ => ?_⟩
      walk_at "go"
      exact ⟨_, _, i, _, _, rfl, rfl, hS1, hc1, hn1, hr1, by omega, i1, i3⟩
  rintro δ' μ' ⟨xs3, L3, i, y, z, rfl, rfl, hS3, hc3, hn3, hr3, hl3, hsp3⟩
  have hlen3 := hS3.len
  have habove := above_edge (xs := xs3) (f := f) (t := t) (List.count_pos_iff.mp (by omega)) hn3
  obtain ⟨s1, hs1, hs2, hs3⟩ := get_of_mem_drop habove
  walk_at "go"
  refine ⟨p, dx, c, m, xs3, r, L3, [], _, rfl, rfl, ⟨t, f + 1, rfl, by omega, by omega, s1, hs1, hs3⟩, ?_⟩
  rintro w xs4 L4 ⟨rfl, rfl, s, rfl, hs⟩
  obtain ⟨s4, s5⟩ := hs t (f + 1) rfl
  have s6 := (List.getElem?_eq_some_iff.mp s5).1
  have hi1 := hsp3.1
  have hi2 : i < xs4.length := by
    obtain ⟨_, x, hx, _⟩ := hsp3
    exact (List.getElem?_eq_some_iff.mp hx).1
  obtain ⟨d1, d2⟩ := double_rep hS3 hc3 ht hsp3 s5
  walk_at "go"
  refine ⟨_, _, _, rfl, ⟨⟨i, s, rfl, hi2, s6⟩, by omega, by omega⟩, ?_⟩
  rintro w xs5 L5 ⟨i', s', e1, rfl, rfl, rfl⟩
  have e1' : i = i' ∧ s = s' := by
    simp only [List.cons.injEq, Sl.da.injEq, PyData.int.injEq, and_true] at e1
    omega
  obtain ⟨rfl, rfl⟩ := e1'
  refine ⟨_, _, [], ⟨rfl, d1, d2, fun S hS => rpL_runs (hr3 S hS) hi2 s6 (by omega) (by omega) (by omega) (by omega), ?_⟩, rfl⟩
  have := rpL_len xs4 i s L4
  omega
/-! ### settle -/
theorem sc44 : FnScope ["site", "floor", "target", "value", "needed"] ["site", "floor", "target"] (defScope (topS 44)) := ⟨rfl, rfl, rfl, by decide +kernel, rfl, by decide +kernel, by decide +kernel⟩
def R44 : SRel := fun args xs r L Po => ∃ (f : Nat) (T : List Str), args = [dI f, .da (tS T)] ∧ SetI ltS T r f xs ∧ xs.length < 5000 ∧ T.length < 5000 ∧ L.length < 15000 ∧
  Po = fun w xs' L' => w = dN ∧ ClimbI T r xs' ∧ xs'.length = f + r + 1 ∧ (∀ S, Runs r f S L xs → Runs r f S L' xs') ∧ L'.length ≤ L.length + 8
theorem ok44 (T : Tx K mg) : FnOk P w K mg base CX0 7 T.f44.a T.f44.d ["site", "floor", "target"] (spG K (stP T.aS R44)) := by
  refine fn_go T.f44.F sc44 (sp_len (n := 2) fun args xs r L Po h => by obtain ⟨f, U, h, _⟩ := h; rw [h]; rfl) (fun cdv A outer s H E hr => ⟨_, (pss_cons (ps_par (i := 3) (j := 4) (by rfl) sc44.nd rfl rfl (by decide) rfl rfl (pa_cons (pe_ix (r := rIx K) ix_seq (pv 2) (pv 1) (fun _ _ => rfl)) (pa_cons (pe_slice (r := rSlF K) sl_tupF (pv 2) (po_some (pe_op op_add (pv 1) pe_int)) po_none) pa_nil)) (by rfl))
      (pss_cons (ps_if (PW.pt (pw_and (pt_cmpR (r := rIn K false) op_in_seq (pv 3) (pv 4) (by rfl)) (pw_and1 (pt_cmpR op_eq (pe_bmK (K := K) rfl PySem.F.plainAttrs_list PySem.F.slot_list_count PySem.F.type_list_count mt_lcountS (pe_slice (r := rSlL K) sl_list (pe_fldK (K := K) rfl (pv 0) rfl) (po_some (pv 1)) po_none) (pa_cons (pv 3) pa_nil)) pe_int (nomark _))))) (pss_one (ps_expr (pe_call (ok43 T) (hr.mono (by decide)) (by rfl) T.f43.g T.f43.F.kp T.f43.b .nil pass0 (pa_cons (pv 0) (pa_cons (pv 1) (pa_cons (pv 3) (pa_cons (pv 4) pa_nil))))))) pss_nil)
      (pss_one (ps_if (pt_cmpR op_ne (pe_ix (r := rIx K) ix_seq (pe_fldK (K := K) rfl (pv 0) rfl) (pv 1) (fun _ _ => rfl)) (pv 3) (nomark _)) (pss_one (ps_expr (pe_meth (pv 0) T.clS T.f37_7.m (ok37_7 T) (hr.mono (by decide)) T.f37_7.b .nil pass0 (pa_cons (pe_call (ok41 T) (hr.mono (by decide)) (by rfl) T.f41.g T.f41.F.kp T.f41.b .nil pass0 (pa_cons (pv 0) (pa_cons (pv 3) (pa_cons (pe_op op_add (pv 1) pe_int) pa_nil)))) (pa_cons (pv 1) pa_nil))))) pss_nil)))), fun g ws μ k eg h => ?_⟩)
  refine sp_go eg h fun p dx c m xs r L args Po hR eg => ?_
  obtain ⟨f, U, rfl, hSet, hx, hU, hL, rfl⟩ := hR
  have hcl := T.clS
  have hnc := T.na_cells
  walk_at "cx"
  have hlen := hSet.len
  have htl := hSet.tlen
  obtain ⟨t, ht⟩ : ∃ t, U[f]? = some t := ⟨_, List.getElem?_eq_getElem (by omega)⟩
  refine go_seq (go_par ?_)
  walk_at "go"
  refine o_ixS rfl ht ?_
  walk_at "go"
  refine os_from (n := f + 1) (by omega) ?_
  walk_at "go"
  refine ⟨_, _, rfl, ?_⟩
  refine go_mid (fun δ' μ' => ∃ xs1 L1, δ' = [.va (.ref p), dI f, .da (tS U), dS t, .da (tS (U.drop (f + 1)))] ∧ μ' = siteM T.aS p dx c m xs1 r L1 ++ [] ∧ SetI ltS U r f xs1 ∧ (t ∈ U.drop (f + 1) → 2 ≤ (xs1.drop f).count t) ∧ (∀ S, Runs r f S L xs → Runs r f S L1 xs1) ∧ L1.length ≤ L.length + 6) ?_ ?_
  · refine go_if (eb_andP ?_)
    walk_at "go"
    refine ⟨decide ((xs.drop f).count t = 1), fun _ => ?_, ?_⟩
    · walk_at "go"
      refine os_cells rfl ?_
      walk_at "go"
      exact ⟨decide_eq_decide.mpr (by omega), rfl⟩
    refine ⟨fun h => ?_, fun h => ?_⟩
    · have h' : t ∈ U.drop (f + 1) ∧ (xs.drop f).count t = 1 := by simpa using h
      refine go_drop (ev_callQ ?_)
      walk_at "go"
      refine ⟨p, dx, c, m, xs, r, L, [], _, rfl, rfl, _, ⟨f, t, U, rfl, ht, h'.1, hSet, h'.2, hx, by omega, rfl⟩, ?_⟩
      rintro w xs2 L2 ⟨rfl, q1, q2, q3, q4⟩
      exact ⟨xs2, L2, rfl, rfl, q1, fun _ => q2, q3, q4⟩
    · walk_at "go"
      refine ⟨xs, L, rfl, rfl, hSet, fun hin => ?_, fun S q => q, by omega⟩
      have h1 : (xs.drop f).count t ≠ 1 := fun q => by
        rw [decide_eq_true hin, decide_eq_true q] at h; cases h
      have h2 : 0 < (xs.drop f).count t := List.count_pos_iff.mpr (hSet.sub t (mem_drop_mono (Nat.le_succ _) hin))
      omega
  rintro δ' μ' ⟨xs1, L1, rfl, rfl, hS1, h2, hr1, hl1⟩
  have hlen1 := hS1.len
  obtain ⟨z, hz⟩ : ∃ z, xs1[f]? = some z := ⟨_, List.getElem?_eq_getElem (by omega)⟩
  walk_at "go"
  refine o_ixC rfl hz ?_
  walk_at "go"
  refine ⟨fun h => ?_, fun h => ?_⟩
  · have h' : ¬ z = t := by simpa using h
    have hin : t ∈ xs1.drop f := hS1.sub t (mem_drop_of_get (Nat.le_refl _) ht)
    have habove := above_edge hin (by rw [hz]; exact fun q => h' (by simpa using q))
    obtain ⟨s1, hs1, hs2, hs3⟩ := get_of_mem_drop habove
    walk_at "go"
    refine ⟨p, dx, c, m, xs1, r, L1, [], _, rfl, rfl, ⟨t, f + 1, rfl, by omega, by omega, s1, hs1, hs3⟩, ?_⟩
    rintro w xs4 L4 ⟨rfl, rfl, s, rfl, hs⟩
    obtain ⟨s4, s5⟩ := hs t (f + 1) rfl
    have s6 := (List.getElem?_eq_some_iff.mp s5).1
    walk_at "go"
    refine ⟨_, _, _, rfl, ⟨⟨s, f, rfl, s6, by omega⟩, by omega, by omega⟩, ?_⟩
    rintro w xs5 L5 ⟨s', i', e1, rfl, rfl, rfl⟩
    have e1' : s = s' ∧ f = i' := by
      simp only [List.cons.injEq, Sl.da.injEq, PyData.int.injEq, and_true] at e1
      omega
    obtain ⟨rfl, rfl⟩ := e1'
    refine ⟨_, _, [], ⟨rfl, settle_move hS1 ht s5 (by omega) h2, by rw [mov_len]; omega, fun S hS => mvL_runs (hr1 S hS) (by omega) s6 (Nat.le_refl _) (by omega) (by omega) (by omega), ?_⟩, rfl⟩
    have := mvL_len xs4 s f L4
    omega
  · have h' : z = t := by simpa using h
    walk_at "go"
    exact ⟨_, _, [], ⟨rfl, settle_end hS1 ht (by rw [hz, h']) h2, by omega, hr1, by omega⟩, rfl⟩
/-! ### climb -/
theorem sc46 : FnScope ["site", "target", "value", "edge"] ["site", "target"] (defScope (topS 46)) := ⟨rfl, rfl, rfl, by decide +kernel, rfl, by decide +kernel, by decide +kernel⟩
def R46 : SRel := fun args xs r L Po => ∃ (T : List Str), args = [.da (tS T)] ∧ ClimbI T r xs ∧ 2 ≤ r ∧ r < 5000 ∧ T.length < 5000 ∧ L.length < 16000 ∧
  Po = fun w xs' L' => w = dN ∧ ClimbI T r xs' ∧ T.length ≤ xs'.length ∧ (∀ S f, (f = 0 ∨ f + r + 1 ≤ xs.length) → Runs r f S L xs → Runs r f S L' xs') ∧ L'.length ≤ L.length + 2 * T.length
theorem ok46 (T : Tx K mg) : FnOk P w K mg base CX0 4 T.f46.a T.f46.d ["site", "target"] (spG K (stP T.aS R46)) := by
  refine fn_go T.f46.F sc46 (sp_len (n := 1) fun args xs r L Po h => by obtain ⟨U, h, _⟩ := h; rw [h]; rfl) (fun cdv A outer s H E hr => ⟨_, (pss_cons (ps_while PassesOwn.never (pt_cmpR op_lt (pe_prop (pv 0) T.clS T.ph (ok37_1 T) (hr.mono (by decide)) T.b1 .nil pass0 rfl) (pe_callB (call_min2 rfl) (by rfl) T.z_min (by decide +kernel) (pa_cons (pe_callB (r := Evl.rLenS K) call_lenS (by rfl) T.z_len (by decide +kernel) (pa_cons (pv 1) pa_nil)) (pa_cons (pe_fldK (K := K) rfl (pv 0) rfl) pa_nil))) (nomark _)) (pss_cons (ps_set (i := 2) sc46.nd rfl (.inl rfl) (pe_call (ok45 T) (hr.mono (by decide)) (by rfl) T.f45.g T.f45.F.kp T.f45.b .nil pass0 (pa_cons (pv 0) (pa_cons pe_int (pa_cons (pv 1) pa_nil)))))
      (pss_one (ps_expr (pe_meth (pv 0) T.clS T.f37_3.m (ok37_3 T) (hr.mono (by decide)) T.f37_3.b .nil pass0 (pa_cons (pe_ifExp (pt_cmpR op_notN (pv 2) pe_non (nomark _)) (pe_call (ok41 T) (hr.mono (by decide)) (by rfl) T.f41.g T.f41.F.kp T.f41.b .nil pass0 (pa_cons (pv 0) (pa_cons (pv 2) (pa_cons pe_int pa_nil)))) (pe_op op_sub (pe_prop (pv 0) T.clS T.ph (ok37_1 T) (hr.mono (by decide)) T.b1 .nil pass0 rfl) pe_int)) pa_nil))))))
      (pss_one (ps_while PassesOwn.never (pt_cmpR op_lt (pe_prop (pv 0) T.clS T.ph (ok37_1 T) (hr.mono (by decide)) T.b1 .nil pass0 rfl) (pe_callB (r := Evl.rLenS K) call_lenS (by rfl) T.z_len (by decide +kernel) (pa_cons (pv 1) pa_nil)) (nomark _)) (pss_cons (ps_set (i := 3) sc46.nd rfl (.inl rfl) (pe_op op_sub (pe_prop (pv 0) T.clS T.ph (ok37_1 T) (hr.mono (by decide)) T.b1 .nil pass0 rfl) (pe_fldK (K := K) rfl (pv 0) rfl)))
      (pss_cons (ps_expr (pe_meth (pv 0) T.clS T.f37_3.m (ok37_3 T) (hr.mono (by decide)) T.f37_3.b .nil pass0 (pa_cons (pe_call (ok41 T) (hr.mono (by decide)) (by rfl) T.f41.g T.f41.F.kp T.f41.b .nil pass0 (pa_cons (pv 0) (pa_cons (pe_ix (r := rIx K) ix_seq (pv 1) (pv 3) (fun _ _ => rfl)) (pa_cons (pv 3) pa_nil)))) pa_nil)))
      (pss_one (ps_if (pt_cmpR op_ne (pe_ix (r := rIx K) ix_seq (pe_fldK (K := K) rfl (pv 0) rfl) (pv 3) (fun _ _ => rfl)) (pe_ix (r := rIx K) ix_seq (pv 1) (pv 3) (fun _ _ => rfl)) (nomark _)) (pss_one (ps_expr (pe_meth (pv 0) T.clS T.f37_4.m (ok37_4 T) (hr.mono (by decide)) T.f37_4.b .nil pass0 (pa_cons (pv 3) pa_nil)))) pss_nil))))))), fun g ws μ k eg h => ?_⟩)
  refine sp_go eg h fun p dx c m xs r L args Po hR eg => ?_
  obtain ⟨U, rfl, hC, hr2, hr3, hU, hL, rfl⟩ := hR
  have hcl := T.clS
  have hnc := T.na_cells
  have hnr := T.na_reach
  walk_at "cx"
  have hlen := hC.len
  refine go_mid (fun δ' μ' => ∃ xs1 L1 y z, δ' = [.va (.ref p), .da (tS U), y, z] ∧ μ' = siteM T.aS p dx c m xs1 r L1 ++ [] ∧ ClimbI U r xs1 ∧ min U.length r ≤ xs1.length ∧ xs.length ≤ xs1.length ∧ (∀ S f, (f = 0 ∨ f + r + 1 ≤ xs.length) → Runs r f S L xs → Runs r f S L1 xs1) ∧ L1.length + 2 * xs.length ≤ L.length + 2 * xs1.length) ?_ ?_
  · refine go_while (fun n δ' μ' => ∃ xs1 L1 y z, δ' = [.va (.ref p), .da (tS U), y, z] ∧ μ' = siteM T.aS p dx c m xs1 r L1 ++ [] ∧ n = U.length - xs1.length ∧ ClimbI U r xs1 ∧ xs.length ≤ xs1.length ∧ (∀ S f, (f = 0 ∨ f + r + 1 ≤ xs.length) → Runs r f S L xs → Runs r f S L1 xs1) ∧ L1.length + 2 * xs.length ≤ L.length + 2 * xs1.length) (U.length - xs.length)
      ⟨xs, L, _, _, rfl, rfl, rfl, hC, Nat.le_refl _, fun _ _ _ q => q, Nat.le_refl _⟩ ?_
    rintro n δ' μ' ⟨xs1, L1, y, z', rfl, rfl, rfl, c1, c2, c3, c4⟩
    have c1l := c1.len
    walk_at "go"
    refine ⟨fun ht => ?_, fun ht => ?_⟩
    · have ht' : xs1.length < U.length ∧ xs1.length < r := by
        have := of_decide_eq_true ht
        split at this <;> omega
      have hsub := c1.sub
      rw [show xs1.length - r = 0 by omega] at hsub
      simp only [List.drop_zero] at hsub
      have hne : 0 < xs1.length := by
        cases hq : U with
        | nil => rw [hq] at ht'; simp at ht'
        | cons u U2 =>
          have := hsub u (by rw [hq]; exact List.mem_cons_self)
          exact List.length_pos_of_mem this
      walk_at "go"
      refine ⟨p, dx, c, m, xs1, r, L1, [], _, rfl, rfl, ⟨0, U, rfl, by omega, by omega⟩, ?_⟩
      rintro w xs2 L2 ⟨rfl, rfl, hlk⟩
      have hlk := hlk 0 U rfl
      have done : ∀ (d : Sl) (i : Nat), i < xs2.length → ∃ m', m' < U.length - xs2.length ∧ ∃ xs1 L1 y z, ([.va (.ref p), .da (tS U), d, z'] : List Sl) = [.va (.ref p), .da (tS U), y, z] ∧ siteM T.aS p dx c m (xs2 ++ (xs2[i]?).toList) r (L2 ++ [.dup (xs2.length - i)]) ++ [] = siteM T.aS p dx c m xs1 r L1 ++ [] ∧ m' = U.length - xs1.length ∧ ClimbI U r xs1 ∧ xs.length ≤ xs1.length ∧ (∀ S f, (f = 0 ∨ f + r + 1 ≤ xs.length) → Runs r f S L xs → Runs r f S L1 xs1) ∧ L1.length + 2 * xs.length ≤ L.length + 2 * xs1.length := fun d i hi => by
        have hcl := cp_len hi
        refine ⟨_, ?_, _, _, d, z', rfl, rfl, rfl, ?_, by omega, fun S f hf hS => ?_, ?_⟩
        · rw [hcl]; omega
        · rw [List.getElem?_eq_getElem hi]
          exact climb_low c1 ht'.1 ht'.2
        · have hf0 : f = 0 := by omega
          exact runs_copy (c3 S f hf hS) hi (by omega) (by omega)
        · rw [hcl, List.length_append, List.length_singleton]; omega
      rcases hlk with ⟨rfl, _⟩ | ⟨v, rfl, hv1, hv2⟩
      · walk_at "go"
        refine ⟨fun h => by simp [nonD] at h, fun _ => ?_⟩
        walk_at "go"
        rw [show (xs2.length : Int) - 1 = ((xs2.length - 1 : Nat) : Int) by omega]
        refine ⟨_, _, _, rfl, ⟨⟨xs2.length - 1, rfl, by omega⟩, by omega, by omega⟩, ?_⟩
        rintro w xs3 L3 ⟨i', e1, rfl, rfl, rfl⟩
        have e1' : xs2.length - 1 = i' := by
          simp only [List.cons.injEq, Sl.da.injEq, PyData.int.injEq, and_true] at e1
          omega
        subst e1'
        exact done _ _ (by omega)
      · rw [List.drop_zero] at hv1
        obtain ⟨s1, _, hs2, hs3⟩ := get_of_mem_drop (b := 0) (by rw [List.drop_zero]; exact hsub v hv1)
        walk_at "go"
        refine ⟨fun _ => ?_, fun h => by simp [nonD] at h⟩
        walk_at "go"
        refine ⟨p, dx, c, m, xs2, r, L2, [], _, rfl, rfl, ⟨v, 0, rfl, by omega, by omega, s1, by omega, hs3⟩, ?_⟩
        rintro w xs4 L4 ⟨rfl, rfl, s, rfl, hs⟩
        obtain ⟨s4, s5⟩ := hs v 0 rfl
        have s6 := (List.getElem?_eq_some_iff.mp s5).1
        walk_at "go"
        refine ⟨_, _, _, rfl, ⟨⟨s, rfl, s6⟩, by omega, by omega⟩, ?_⟩
        rintro w xs3 L3 ⟨i', e1, rfl, rfl, rfl⟩
        have e1' : s = i' := by
          simp only [List.cons.injEq, Sl.da.injEq, PyData.int.injEq, and_true] at e1
          omega
        subst e1'
        exact done _ _ s6
    · have ht' : ¬ (xs1.length < U.length ∧ xs1.length < r) := by
        have := of_decide_eq_false ht
        split at this <;> omega
      exact ⟨xs1, L1, y, z', rfl, rfl, c1, by omega, c2, c3, c4⟩
  rintro δ' μ' ⟨xs1, L1, y, z, rfl, rfl, c1, c0, c2, c3, c4⟩
  refine go_while (fun n δ' μ' => ∃ xs1 L1 y z, δ' = [.va (.ref p), .da (tS U), y, z] ∧ μ' = siteM T.aS p dx c m xs1 r L1 ++ [] ∧ n = U.length - xs1.length ∧ ClimbI U r xs1 ∧ min U.length r ≤ xs1.length ∧ xs.length ≤ xs1.length ∧ (∀ S f, (f = 0 ∨ f + r + 1 ≤ xs.length) → Runs r f S L xs → Runs r f S L1 xs1) ∧ L1.length + 2 * xs.length ≤ L.length + 2 * xs1.length) (U.length - xs1.length)
    ⟨xs1, L1, y, z, rfl, rfl, rfl, c1, c0, c2, c3, c4⟩ ?_
  rintro n δ' μ' ⟨xs2, L2, y, z, rfl, rfl, rfl, d1, d0, d2, d3, d4⟩
  have d1l := d1.len
  walk_at "go"
  refine ⟨fun ht => ?_, fun ht => ?_⟩
  · have ht' : xs2.length < U.length := by
      have := of_decide_eq_true ht
      omega
    have hrle : r ≤ xs2.length := by omega
    have ee : (xs2.length : Int) - (r : Int) = ((xs2.length - r : Nat) : Int) := by omega
    obtain ⟨t, hte⟩ : ∃ t, U[xs2.length - r]? = some t := ⟨_, List.getElem?_eq_getElem (by omega)⟩
    have hin := d1.sub t (mem_drop_of_get (Nat.le_refl _) hte)
    obtain ⟨s1, hs1, hs2, hs3⟩ := get_of_mem_drop hin
    walk_at "go"
    rw [ee]
    walk_at "go"
    refine o_ixS rfl hte ?_
    walk_at "go"
    refine ⟨p, dx, c, m, xs2, r, L2, [], _, rfl, rfl, ⟨t, xs2.length - r, rfl, by omega, by omega, s1, hs1, hs3⟩, ?_⟩
    rintro w xs4 L4 ⟨rfl, rfl, s, rfl, hs⟩
    obtain ⟨s4, s5⟩ := hs t (xs4.length - r) rfl
    have s6 := (List.getElem?_eq_some_iff.mp s5).1
    walk_at "go"
    refine ⟨_, _, _, rfl, ⟨⟨s, rfl, s6⟩, by omega, by omega⟩, ?_⟩
    rintro w xs3 L3 ⟨i', e1, rfl, rfl, rfl⟩
    have e1' : s = i' := by
      simp only [List.cons.injEq, Sl.da.injEq, PyData.int.injEq, and_true] at e1
      omega
    subst e1'
    have hcl2 := cp_len s6
    have hr1 : ∀ S f, (f = 0 ∨ f + r + 1 ≤ xs.length) → Runs r f S L xs → Runs r f S (L4 ++ [.dup (xs4.length - s)]) (xs4 ++ (xs4[s]?).toList) := fun S f hf hS => runs_copy (d3 S f hf hS) s6 (by omega) (by omega)
    have e5 : (xs4[s]?).toList = [t] := by rw [s5]; rfl
    rw [e5] at hcl2 hr1 ⊢
    obtain ⟨q, hq⟩ : ∃ q, (xs4 ++ [t])[xs4.length - r]? = some q := ⟨_, List.getElem?_eq_getElem (by omega)⟩
    walk_at "go"
    refine o_ixC rfl hq ?_
    walk_at "go"
    refine o_ixS rfl hte ?_
    walk_at "go"
    refine ⟨fun h => ?_, fun h => ?_⟩
    · walk_at "go"
      refine ⟨_, _, _, rfl, ⟨⟨xs4.length - r, rfl, by omega⟩, by omega, by rw [List.length_append, List.length_singleton]; omega⟩, ?_⟩
      rintro w xs5 L5 ⟨i', e1, rfl, rfl, rfl⟩
      have e1' : xs4.length - r = i' := by
        simp only [List.cons.injEq, Sl.da.injEq, PyData.int.injEq, and_true] at e1
        omega
      have hxl := exL_len (xs4 ++ [t]) (xs4.length - r) (L4 ++ [.dup (xs4.length - s)])
      rw [List.length_append, List.length_singleton] at hxl
      rw [← e1']
      refine ⟨_, ?_, _, _, _, _, rfl, rfl, rfl, climb_high d1 ht' hrle (by omega) hte _ (.inr rfl), ?_, ?_, fun S f hf hS => exL_runs (hr1 S f hf hS) (by omega) (by omega) (by omega), ?_⟩
      · rw [exch_len]; omega
      · rw [exch_len]; omega
      · rw [exch_len]; omega
      · rw [exch_len]; omega
    · have h' : q = t := by simpa using h
      subst h'
      walk_at "go"
      refine ⟨_, ?_, _, _, _, _, rfl, rfl, rfl, climb_high d1 ht' hrle (by omega) hte _ (.inl ⟨rfl, hq⟩), by omega, by omega, hr1, ?_⟩
      · omega
      · rw [List.length_append, List.length_singleton]; omega
  · have ht' : ¬ xs2.length < U.length := by
      have := of_decide_eq_false ht
      omega
    exact ⟨xs2, L2, [], ⟨rfl, d1, by omega, d3, by omega⟩, rfl⟩
/-! ### finish -/
theorem sc47 : FnScope ["site", "target", "base", "value", "index", "extra"] ["site", "target"] (defScope (topS 47)) := ⟨rfl, rfl, rfl, by decide +kernel, rfl, by decide +kernel, by decide +kernel⟩
def R47 : SRel := fun args xs r L Po => ∃ (T : List Str), args = [.da (tS T)] ∧ FinI T (xs.length - r) xs ∧ r < 5000 ∧ T.length ≤ 60 ∧ L.length < 20000 ∧
  Po = fun w xs' L' => w = dN ∧ xs' = T ∧ (∀ S f, f ≤ xs.length - r → Runs r f S L xs → Runs r f S L' xs') ∧ L'.length ≤ L.length + 20000
theorem extraB_iff {U xs : List Str} {b i : Nat} : extraB U xs b i = true ↔ Extra U xs b i := by
  unfold extraB Extra
  cases xs[i]? with
  | none => simp
  | some x => simp
theorem ok47 (T : Tx K mg) : FnOk P w K mg base CX0 6 T.f47.a T.f47.d ["site", "target"] (spG K (stP T.aS R47)) := by
  refine fn_go T.f47.F sc47 (sp_len (n := 1) fun args xs r L Po h => by obtain ⟨U, h, _⟩ := h; rw [h]; rfl) (fun cdv A outer s H E hr => ⟨_, (pss_cons (ps_set (i := 2) sc47.nd rfl (.inr rfl) (pe_callB (call_max2 rfl) (by rfl) T.z_max (by decide +kernel) (pa_cons pe_int (pa_cons (pe_op op_sub (pe_prop (pv 0) T.clS T.ph (ok37_1 T) (hr.mono (by decide)) T.b1 .nil pass0 rfl) (pe_fldK (K := K) rfl (pv 0) rfl)) pa_nil))))
      (pss_cons (ps_set (i := 3) sc47.nd rfl (.inl rfl) (pe_call (ok45 T) (hr.mono (by decide)) (by rfl) T.f45.g T.f45.F.kp T.f45.b .nil pass0 (pa_cons (pv 0) (pa_cons (pv 2) (pa_cons (pv 1) pa_nil)))))
      (pss_cons (ps_while PassesOwn.never (pt_cmpR op_notN (pv 3) pe_non (nomark _)) (pss_cons (ps_set (i := 5) sc47.nd rfl (.inl rfl) (pe_ix (r := rIx K) ix_seq (pe_lc (g := gName 4) (tt := _) (own := [("index", 4)]) rfl sc47.nd (pi_range2 rfl T.z_range (pa_cons (pv 2) (pa_cons (pe_prop (pv 0) T.clS T.ph (ok37_1 T) (hr.mono (by decide)) T.b1 .nil pass0 rfl) pa_nil))) (blkOk_by (N := ["site", "target", "base", "value", "index", "extra"]) (sc := defScope (topS 47)) (own := [("index", 4)]) (by decide +kernel)) (fun _ _ _ _ _ => pg_name (i := 4) sc47.nd rfl (.inl rfl)) (fun _ _ _ _ _ => pts_one (pt_val (pe_call (ok48 T) (hr.mono (by decide)) (by rfl) T.f48.g T.f48.F.kp T.f48.b .nil pass0 (pa_cons (pv 0) (pa_cons (pv 2) (pa_cons (pv 1) (pa_cons (pv 4) pa_nil))))))) (fun _ _ _ _ _ => pv 4)) (pe_un un_neg pe_int) (fun _ _ => rfl)))
      (pss_cons (ps_expr (pe_meth (pv 0) T.clS T.f37_6.m (ok37_6 T) (hr.mono (by decide)) T.f37_6.b .nil pass0 (pa_cons (pv 5) (pa_cons (pe_call (ok41 T) (hr.mono (by decide)) (by rfl) T.f41.g T.f41.F.kp T.f41.b .nil pass0 (pa_cons (pv 0) (pa_cons (pv 3) (pa_cons (pv 2) pa_nil)))) pa_nil))))
      (pss_one (ps_set (i := 3) sc47.nd rfl (.inl rfl) (pe_call (ok45 T) (hr.mono (by decide)) (by rfl) T.f45.g T.f45.F.kp T.f45.b .nil pass0 (pa_cons (pv 0) (pa_cons (pv 2) (pa_cons (pv 1) pa_nil)))))))))
      (pss_one (ps_for PassesOwn.never rfl (pi_range2 rfl T.z_range (pa_cons (pv 2) (pa_cons (pe_prop (pv 0) T.clS T.ph (ok37_1 T) (hr.mono (by decide)) T.b1 .nil pass0 rfl) pa_nil))) (pg_name (i := 4) sc47.nd rfl (.inl rfl)) (pss_one (ps_if (pt_cmpR op_ne (pe_ix (r := rIx K) ix_seq (pe_fldK (K := K) rfl (pv 0) rfl) (pv 4) (fun _ _ => rfl)) (pe_ix (r := rIx K) ix_seq (pv 1) (pv 4) (fun _ _ => rfl)) (nomark _)) (pss_one (ps_expr (pe_meth (pv 0) T.clS T.f37_7.m (ok37_7 T) (hr.mono (by decide)) T.f37_7.b .nil pass0 (pa_cons (pe_call (ok41 T) (hr.mono (by decide)) (by rfl) T.f41.g T.f41.F.kp T.f41.b .nil pass0 (pa_cons (pv 0) (pa_cons (pe_ix (r := rIx K) ix_seq (pv 1) (pv 4) (fun _ _ => rfl)) (pa_cons (pv 4) pa_nil)))) (pa_cons (pv 4) pa_nil))))) pss_nil))))))), fun g ws μ k eg h => ?_⟩)
  refine sp_go eg h fun p dx c m xs r L args Po hR eg => ?_
  obtain ⟨U, rfl, hF, hr3, hU, hL, rfl⟩ := hR
  have hcl := T.clS
  have hnc := T.na_cells
  have hnr := T.na_reach
  walk_at "cx"
  have hlen := hF.len
  obtain ⟨b, hb⟩ : ∃ b, b = xs.length - r := ⟨_, rfl⟩
  walk_at "go"
  have eb : (if (xs.length : Int) - (r : Int) > 0 then (xs.length : Int) - (r : Int) else 0) = ((b : Nat) : Int) := by split <;> omega
  rw [eb]
  rw [← hb] at hF
  walk_at "go"
  refine ⟨p, dx, c, m, xs, r, L, [], _, rfl, rfl, ⟨b, U, rfl, by omega, by omega⟩, ?_⟩
  rintro w xs0 L0 ⟨rfl, rfl, hlk⟩
  have hlk := hlk b U rfl
  have hdl : defi (U.drop b) (U.drop b) (xs0.drop b) ≤ 3600 := by
    have h1 := defi_le (U.drop b) (xs0.drop b) (U.drop b)
    have h2 : (U.drop b).length ≤ 60 := by rw [List.length_drop]; omega
    have h3 : (U.drop b).length * (U.drop b).length ≤ 60 * 60 := Nat.mul_le_mul h2 h2
    omega
  refine go_mid (fun δ' μ' => ∃ xs1 L1 y z, δ' = [.va (.ref p), .da (tS U), dI b, dN, y, z] ∧ μ' = siteM T.aS p dx c m xs1 r L1 ++ [] ∧ FinI U b xs1 ∧ (xs1.drop b).Perm (U.drop b) ∧ (∀ S f, f ≤ b → Runs r f S L0 xs0 → Runs r f S L1 xs1) ∧ L1.length ≤ L0.length + 12000) ?_ ?_
  · refine go_while (fun n δ' μ' => ∃ xs1 L1 d y z, δ' = [.va (.ref p), .da (tS U), dI b, d, y, z] ∧ μ' = siteM T.aS p dx c m xs1 r L1 ++ [] ∧ n = defi (U.drop b) (U.drop b) (xs1.drop b) ∧ FinI U b xs1 ∧ ((d = dN ∧ ∀ v, v ∈ U.drop b → ¬ (xs1.drop b).count v < (U.drop b).count v) ∨ ∃ v, d = dS v ∧ Lack U xs1 b v) ∧ (∀ S f, f ≤ b → Runs r f S L0 xs0 → Runs r f S L1 xs1) ∧ n ≤ 3600 ∧ L1.length + 3 * n ≤ L0.length + 3 * 3600) (defi (U.drop b) (U.drop b) (xs0.drop b))
      ⟨xs0, L0, _, _, _, rfl, rfl, rfl, hF, hlk, fun _ _ _ q => q, hdl, by omega⟩ ?_
    rintro n δ' μ' ⟨xs1, L1, d, y, z, rfl, rfl, rfl, c1, c2, c3, c4, c5⟩
    have c1l := c1.len
    rcases c2 with ⟨rfl, hno⟩ | ⟨v, rfl, hv⟩
    · walk_at "go"
      refine ⟨fun h => by simp [nonD] at h, fun _ => ?_⟩
      exact ⟨xs1, L1, y, z, rfl, rfl, c1, fin_perm c1 hno, c3, by omega⟩
    · obtain ⟨x0, hx0, hx1, hx2⟩ := extra_exists c1 hv
      obtain ⟨s1, hs1, hs2, hs3⟩ := get_of_mem_drop (c1.sub v hv.1)
      walk_at "go"
      refine ⟨fun _ => ?_, fun h => by simp [nonD] at h⟩
      refine go_seq (go_set (ev_op (ev_compR2 (by simp) ?_)))
      walk_at "go"
      refine ⟨(b : Int), (xs1.length : Int), rfl, small_of (by omega) (by omega), small_of (by omega) (by omega), fun d => extraB U xs1 b (intD d).toNat, id, by omega, by rw [eg]; simp, fun i hi μ' => ?_, ?_⟩
      · rw [show (b : Int) + (i : Nat) = ((b + i : Nat) : Int) by omega]
        walk_at "go"
        refine ⟨p, dx, c, m, xs1, r, L1, [] ++ μ', _, rfl, by rw [List.append_assoc], ⟨b, b + i, U, rfl, by omega, by omega, by omega⟩, ?_⟩
        rintro w xs5 L5 ⟨rfl, rfl, hw⟩
        rw [hw b (b + i) U rfl]
        refine ⟨_, rfl, rfl, by rw [List.append_assoc], fun _ => ?_⟩
        walk_at "go"
        exact ⟨rfl, rfl⟩
      rw [outD_ints (q := fun i => extraB U xs1 b (b + i)) fun i _ => by
        show extraB U xs1 b ((b : Int) + (i : Nat)).toNat = _
        rw [show ((b : Int) + (i : Nat)).toNat = b + i by omega]]
      obtain ⟨i, i1, i2, i3⟩ := last_range (n := ((xs1.length : Int) - (b : Int)).toNat) (q := fun i => extraB U xs1 b (b + i)) ⟨x0 - b, by omega, by
        show extraB U xs1 b (b + (x0 - b)) = true
        rw [show b + (x0 - b) = x0 by omega]
        exact extraB_iff.mpr hx2⟩
      have hE := extraB_iff.mp i2
      walk_at "go"
      refine o_ixL (i3 _ _) ?_
      rw [show (b : Int) + (i : Nat) = ((b + i : Nat) : Int) by omega]
      walk_at "go"
      refine ⟨p, dx, c, m, xs1, r, L1, [], _, rfl, rfl, ⟨v, b, rfl, by omega, by omega, s1, hs1, hs3⟩, ?_⟩
      rintro w xs4 L4 ⟨rfl, rfl, s, rfl, hs⟩
      obtain ⟨s4, s5⟩ := hs v b rfl
      have s6 := (List.getElem?_eq_some_iff.mp s5).1
      obtain ⟨f1, f2⟩ := fin_rep c1 hv (Nat.le_add_right b i) hE s5
      walk_at "go"
      refine ⟨_, _, _, rfl, ⟨⟨b + i, s, rfl, by omega, s6⟩, by omega, by omega⟩, ?_⟩
      rintro w xs3 L3 ⟨i', s', e1, rfl, rfl, rfl⟩
      have e1' : b + i = i' ∧ s = s' := by
        simp only [List.cons.injEq, Sl.da.injEq, PyData.int.injEq, and_true] at e1
        omega
      obtain ⟨rfl, rfl⟩ := e1'
      have hll := rpL_len xs4 (b + i) s L4
      have f1l := f1.len
      walk_at "go"
      refine ⟨p, dx, c, m, rep xs4 (b + i) s, r, rpL xs4 (b + i) s L4, [], _, rfl, rfl, ⟨b, U, rfl, by omega, by omega⟩, ?_⟩
      rintro w xs5 L5 ⟨rfl, rfl, hlk2⟩
      refine ⟨_, f2, _, _, _, _, _, rfl, rfl, rfl, f1, hlk2 b U rfl, fun S f hf hS => rpL_runs (c3 S f hf hS) (by omega) s6 (by omega) (by omega) (by omega) (by omega), by omega, by omega⟩
  rintro δ' μ' ⟨xs1, L1, y, z, rfl, rfl, c1, c2, c3, c4⟩
  have c1l := c1.len
  refine go_forR2 ?_
  walk_at "go"
  refine ⟨(b : Int), (xs1.length : Int), rfl, small_of (by omega) (by omega), small_of (by omega) (by omega), fun n δ' μ' => ∃ xs2 L2 y, δ' = [.va (.ref p), .da (tS U), dI b, dN, y, z] ∧ μ' = siteM T.aS p dx c m xs2 r L2 ++ [] ∧ SortI U (b + n) xs2 ∧ xs2.length = U.length ∧ (∀ S f, f ≤ b → Runs r f S L0 xs0 → Runs r f S L2 xs2) ∧ L2.length ≤ L1.length + 2 * n, ⟨_, _, _, rfl, rfl, ⟨c1.same, c2⟩, c1l, c3, by omega⟩, ?_, ?_⟩
  · rintro i δ' μ' hi ⟨xs2, L2, y, rfl, rfl, d1, d2, d3, d4⟩
    have hi2 : b + i < U.length := by omega
    rw [show (b : Int) + (i : Nat) = ((b + i : Nat) : Int) by omega]
    obtain ⟨t, ht⟩ : ∃ t, U[b + i]? = some t := ⟨_, List.getElem?_eq_getElem hi2⟩
    obtain ⟨q, hq⟩ : ∃ q, xs2[b + i]? = some q := ⟨_, List.getElem?_eq_getElem (by omega)⟩
    obtain ⟨s1, hs1, hs2, hs3⟩ := sort_there d1 ht
    walk_at "go"
    refine o_ixC rfl hq ?_
    walk_at "go"
    refine o_ixS rfl ht ?_
    walk_at "go"
    refine ⟨fun h => ?_, fun h => ?_⟩
    · walk_at "go"
      refine o_ixS rfl ht ?_
      walk_at "go"
      refine ⟨p, dx, c, m, xs2, r, L2, [], _, rfl, rfl, ⟨t, b + i, rfl, by omega, by omega, s1, hs1, hs3⟩, ?_⟩
      rintro w xs4 L4 ⟨rfl, rfl, s, rfl, hs⟩
      obtain ⟨s4, s5⟩ := hs t (b + i) rfl
      have s6 := (List.getElem?_eq_some_iff.mp s5).1
      walk_at "go"
      refine ⟨_, _, _, rfl, ⟨⟨s, b + i, rfl, s6, by omega⟩, by omega, by omega⟩, ?_⟩
      rintro w xs5 L5 ⟨s', i', e1, rfl, rfl, rfl⟩
      have e1' : s = s' ∧ b + i = i' := by
        simp only [List.cons.injEq, Sl.da.injEq, PyData.int.injEq, and_true] at e1
        omega
      obtain ⟨rfl, rfl⟩ := e1'
      have hml := mvL_len xs4 s (b + i) L4
      exact ⟨_, _, _, rfl, rfl, sort_move d1 ht s5 s4, by rw [mov_len]; exact d2, fun S f hf hS => mvL_runs (d3 S f hf hS) (by omega) s6 (by omega) (by omega) (by omega) (by omega), by omega⟩
    · have h' : q = t := by simpa using h
      walk_at "go"
      exact ⟨_, _, _, rfl, rfl, sort_here d1 ht (hq.trans (congrArg some h')), d2, d3, by omega⟩
  · rintro δ' μ' ⟨xs2, L2, y, rfl, rfl, d1, d2, d3, d4⟩
    exact ⟨xs2, L2, [], ⟨rfl, sort_done d1 (by omega) d2, fun S f hf hS => d3 S f (by omega) hS, by omega⟩, rfl⟩
end
end De
end
section
set_option Elab.async false
set_option linter.all false
set_option maxRecDepth 100000
set_option maxHeartbeats 4000000
/-! building.py: Site(..), rebuilt -/
namespace De
open PySem PySem.Spec PyProof.Rows L2
def slV : Sl → Option V
  | .va v => some v
  | .da (.int i) => some (.int i)
  | _ => none
theorem rl_slV {K : PySem.W.Frag} {B : Hp} {y v : V} {w : Sl} (h : Rl K B y w) (e : slV w = some v) : y = v := by
  cases w with
  | no => cases e
  | va u => cases e; exact h
  | da d =>
    cases d with
    | int i => cases e; exact dp_int h
    | _ => cases e
section
variable {K : PySem.W.Frag} {g : Gr} {δ : List Sl} {μ : Mus} {k : Sl → Mus → Prop} {F : AE} {te ta tv : TE} {tas : TA} {C : Addr} {E : XK}
theorem go_fld {f : Str} (h : Ev K g δ μ tv fun w μ1 => Ev K g δ μ1 ta fun w2 μ2 => ∃ (a C : Addr) (n : Nat) (dx : Addr) (fs : List (Str × V)) (v : V), w2 = .va (.ref a) ∧ μ2[n]? = some (a, .obj (.ins C dx fs)) ∧ Cls K C ∧ NoAttr K C f ∧ fs.length < 1000 ∧ slV w = some v ∧ F.nx δ (μ2.set n (a, .obj (.ins C dx (putF f v fs))))) : Go K g δ μ (sFld K ta tv f) F := fun σ H B cc D fi =>
  h σ H B cc _ fun w μ1 y H1 B1 h1 c1 s1 r1 => h1 σ H1 B1 c1 _ fun w2 μ2 y2 H2 B2 ⟨a, C, n, dx, fs, v, e1, e2, hc, ha, hl, e3, hk⟩ c2 s2 r2 => by
    subst e1
    cases (show y2 = _ from r2)
    cases rl_slV r1 e3
    exact ⟨a, C, dx, fs, rfl, (c2.mu _ (get_addr e2)).1, hc, ha, hl, fi.nx _ _ _ _ _ hk (c2.write e2 (o := .ins C dx (putF f y fs)) upd_same) (s1.trans s2)⟩
def S0 (C : Addr) : Spec := fun ws μ k => ∃ x dx S r, ws = [.va (.ref x), .da (tS S), dI (r : Nat)] ∧ μ = [(x, .obj (.ins C dx []))] ∧ ∀ c m, k dN (siteM C x dx c m S r [])
/-- Site(stack, reach) -/
theorem ev_make (h : EvA K g δ μ tas fun ws μ1 => μ1 = [] ∧ ∃ S r, ws = [.da (tS S), dI (r : Nat)] ∧ ∀ x dx c m, k (.va (.ref x)) (siteM C x dx c m S r [] ++ [])) : Ev K g δ μ (tMake C (spG K (S0 C)) [] E tas) k := fun σ H B cc Q hq =>
  h σ H B cc _ fun ws μ1 vs H1 B1 ⟨e1, S, r, e2, hk⟩ c1 s1 r1 x dx hx hdx hne => by
    subst e1 e2
    obtain ⟨c2, s2⟩ := c1.new (o := .own x) hdx
    have hx2 : (upd H1 dx (.own x)) x = none := by rw [upd_ne (Ne.symm hne)]; exact hx
    have c3 := c2.newM (o := .ins C dx []) (m := .obj (.ins C dx [])) hx2 upd_same
    show spG K (S0 C) (.ref x :: (vs ++ [])) _ _ E
    rw [List.append_nil]
    refine call_run (k := fun w μ' => w = dN ∧ ∃ c m, μ' = siteM C x dx c m S r [] ++ []) c3 (.cons (w := .va (.ref x)) rfl (rlAll_same s2 r1)) ⟨[0], [(x, .obj (.ins C dx []))], rfl, by decide, fun w μ' => w = dN ∧ ∃ c m, μ' = siteM C x dx c m S r [], ⟨x, dx, S, r, rfl, rfl, fun c m => ⟨rfl, c, m, rfl⟩⟩, fun w μf' news _ ⟨e1, c, m, e2⟩ => ?_⟩ fun w μ' v H' B' ⟨e1, c, m, e2⟩ c4 s4 r4 => ?_
    · subst e1 e2
      exact ⟨rfl, c, m, rfl⟩
    · subst e1 e2
      exact ⟨dp_none r4, hq _ _ _ _ _ (hk x dx c m) c4 (s1.trans (s2.trans s4)) rfl⟩
end
theorem putF_ne {f h : Str} {v x : V} {r : List (Str × V)} (n : ¬ h = f) : putF f v ((h, x) :: r) = (h, x) :: putF f v r := if_neg n
theorem putF_nil {f : Str} {v : V} : putF f v [] = [(f, v)] := rfl
theorem put1 (c : Addr) (r : Nat) : putF "reach" (.int (r : Nat)) (putF "cells" (.ref c) []) = ([("cells", .ref c), ("reach", .int (r : Nat))] : List (Str × V)) := by
  rw [putF_nil, putF_ne (by decide +kernel), putF_nil]
theorem flds_put (c m : Addr) (r : Nat) : putF "made" (.ref m) (putF "reach" (.int (r : Nat)) (putF "cells" (.ref c) [])) = flds c r m := by
  rw [put1, putF_ne (by decide +kernel), putF_ne (by decide +kernel), putF_nil]
  rfl
local macro_rules | `(tactic| walk_at "de") => `(tactic| first
  | with_reducible refine go_seq ?_
  | with_reducible refine go_set ?_
  | with_reducible refine go_ret ?_
  | with_reducible refine go_if ?_
  | with_reducible refine go_next ?_
  | with_reducible refine go_drop ?_
  | ((with_reducible apply ev_da); exact rfl)
  | ((with_reducible apply ev_va); exact rfl)
  | with_reducible refine ev_c ?_
  | with_reducible refine ev_op ?_
  | with_reducible refine ev_un ?_
  | with_reducible refine ea_nil ?_
  | with_reducible refine ea_cons ?_
  | with_reducible refine ev_sortset ?_
  | ((with_reducible apply ev_cells); (focus assumption); (focus assumption))
  | ((with_reducible apply ev_reach); (focus assumption); (focus assumption))
  | ((with_reducible apply ev_made); (focus assumption); (focus assumption))
  | with_reducible refine ev_height ?_
  | ((with_reducible apply ev_methS); (focus (decide +kernel)); (focus (decide +kernel)); (focus (decide +kernel)))
  | with_reducible refine ev_callS ?_
  | with_reducible refine ev_count ?_
  | with_reducible refine ev_tcount ?_
  | with_reducible refine oc_len_c ?_
  | with_reducible refine ev_cb ?_
  | with_reducible refine eb_test ?_
  | with_reducible refine eb_B ?_
  | with_reducible refine eb_and ?_
  | with_reducible refine eb_or ?_
  | with_reducible refine eb_not ?_
  | with_reducible refine ev_andV ?_
  | with_reducible refine ev_orV ?_
  | with_reducible refine ev_notV ?_
  | with_reducible refine ev_if ?_
  | with_reducible refine ev_sl ?_
  | with_reducible refine eo_no ?_
  | with_reducible refine eo_some ?_
  | with_reducible refine ev_tup' ?_
  | with_reducible refine ev_callX ?_
  | with_reducible refine ev_callP ?_
  | with_reducible refine ev_callNP ?_
  | with_reducible refine ev_call ?_
  | with_reducible refine ev_callN ?_
  | with_reducible refine ev_chain ?_
  | with_reducible refine o_I0 ?_
  | with_reducible refine o_eqI ?_
  | with_reducible refine o_neI ?_
  | with_reducible refine o_eqS ?_
  | with_reducible refine o_neS ?_
  | with_reducible refine o_isN ?_
  | with_reducible refine o_notN ?_
  | with_reducible refine o_ltS ?_
  | with_reducible refine o_U ?_
  | with_reducible refine oc_len_tS ?_
  | with_reducible refine oc_len_lS ?_
  | with_reducible refine oc_len_t ?_
  | with_reducible refine oc_len_l ?_
  | with_reducible refine o_ix0 ?_
  | with_reducible refine o_ix1 ?_
  | with_reducible refine ev_dnew ?_
  | with_reducible refine oc_isiT ?_
  | with_reducible refine oc_isiTL ?_
  | with_reducible refine oc_isiI ?_
  | with_reducible refine oc_isiIB ?_
  | with_reducible refine oc_isiS ?_
  | with_reducible refine oc_min2 ?_
  | with_reducible refine oc_max2 ?_
  | with_reducible refine oc_abs ?_
  | with_reducible refine oc_tup_lS ?_
  | with_reducible refine oc_tup_l ?_
  | with_reducible refine o_inF ?_
  | with_reducible refine o_inT ?_
  | with_reducible refine o_inLF ?_
  | with_reducible refine o_inLT ?_
  | with_reducible refine eb_yes ?_
  | (refine Exists.intro _ (Exists.intro _ (Exists.intro _ (Exists.intro _ (Exists.intro _ (Exists.intro _ (Exists.intro _ (Exists.intro _ (And.intro rfl (And.intro rfl ?_))))))))))
  | (refine Exists.intro _ (And.intro (show dats _ = some _ from rfl) (And.intro (show Nat.ble _ 60 = true from rfl) ?_)))
  | with_reducible refine Exists.intro _ (And.intro rfl ?_))
local macro_rules | `(tactic| walk_at "cx") => `(tactic| try simp only [cx_K, cx_K'])
local macro_rules | `(tactic| walk_at "go") => `(tactic| repeat walk_at "de")

section
variable {P : Program} {w : World} {K : PySem.W.Frag} {mg : Str → Option Value} {base : Heap}
theorem sc37_0 : FnScope ["self", "stack", "reach"] ["self", "stack", "reach"] (defScope (inClass (topS 37) 0)) := ⟨rfl, rfl, rfl, by decide +kernel, rfl, by decide +kernel, by decide +kernel⟩
theorem ok37_0 (T : Tx K mg) : FnOk P w K mg base CX0 1 T.a0 T.d0 ["self", "stack", "reach"] (spG K (S0 T.aS)) := by
  refine fn_go T.F0 sc37_0 (fun ws μ k h => by obtain ⟨x, dx, S, r, h, _⟩ := h; rw [h]; rfl) (fun cdv A outer s H E hr => ⟨_, (pss_cons (ps_fld (pv 0) (pe_callTy (r := Evl.rListS K) call_listS (by rfl) T.z_list (by decide +kernel) (pa_cons (pv 1) pa_nil)) rfl)
      (pss_cons (ps_fld (pv 0) (pv 2) rfl)
      (pss_one (ps_fld (pv 0) (pe_lst pa_nil) rfl)))), fun g ws μ k eg h => ?_⟩)
  obtain ⟨x, dx, S, r, rfl, rfl, hk⟩ := h
  walk_at "cx"
  refine go_seq (go_fld ?_)
  walk_at "go"
  refine oc_list_t fun c => ?_
  walk_at "go"
  refine ⟨x, T.aS, 0, dx, [], _, rfl, rfl, T.clS, T.na_cells, by decide, rfl, ?_⟩
  refine go_seq (go_fld ?_)
  walk_at "go"
  refine ⟨x, T.aS, 0, dx, _, _, rfl, rfl, T.clS, T.na_reach, by rw [putF_nil]; show 1 < 1000; decide, rfl, ?_⟩
  refine go_fld (ev_lstM ?_)
  walk_at "go"
  refine ⟨Nat.zero_le _, fun m => ?_⟩
  walk_at "go"
  refine ⟨x, T.aS, 0, dx, _, _, rfl, rfl, T.clS, T.na_made, by rw [put1]; show 2 < 1000; decide, rfl, ?_⟩
  rw [flds_put]
  refine ⟨siteM T.aS x dx c m S r [], [c, m], ?_, by rw [eg]; rfl, hk c m⟩
  show List.Sublist (siteM T.aS x dx c m S r []) [(x, .obj (.ins T.aS dx (flds c r m))), (c, .lis ((S.map PyData.str).map Sl.da)), (m, .lis [])]
  rw [← map_dS]
  exact List.Sublist.refl _
/-! ### rebuilt -/
theorem sc49 : FnScope ["stack", "target", "reach", "floor", "site", "keep", "value"] ["stack", "target", "reach", "floor"] (defScope (topS 49)) := ⟨rfl, rfl, rfl, by decide +kernel, rfl, by decide +kernel, by decide +kernel⟩
def S49 : Spec := fun ws μ k => μ = [] ∧ ∃ (S T : List Str) (r f : Nat), ws = [.da (tS S), .da (tS T), dI r, dI f] ∧ Pil S ∧ Pil T ∧ 2 ≤ r ∧ r ≤ 60 ∧ Floor ltS S T r f ∧
  ∀ L : List Ins, Runs r f S L T → L.length ≤ 60000 → k (dT (L.map insD)) []
theorem ok49 (T : Tx K mg) : FnOk P w K mg base CX0 8 T.f49.a T.f49.d ["stack", "target", "reach", "floor"] (spG K S49) := by
  refine fn_go T.f49.F sc49 (fun ws μ k h => by obtain ⟨_, _, _, _, _, h, _⟩ := h; rw [h]; rfl) (fun cdv A outer s H E hr => ⟨_, (pss_cons (ps_set (i := 4) sc49.nd rfl (.inl rfl) (pe_make T.mkS (ok37_0 T) (hr.mono (by decide)) (by rfl) T.gS T.b0 .nil pass0 (pa_cons (pv 0) (pa_cons (pv 2) pa_nil))))
      (pss_cons (ps_if (pt_cmpR op_le (pe_callB (call_min2 rfl) (by rfl) T.z_min (by decide +kernel) (pa_cons (pe_callB (r := Evl.rLenS K) call_lenS (by rfl) T.z_len (by decide +kernel) (pa_cons (pv 0) pa_nil)) (pa_cons (pe_callB (r := Evl.rLenS K) call_lenS (by rfl) T.z_len (by decide +kernel) (pa_cons (pv 1) pa_nil)) pa_nil))) (pv 2) (nomark _)) (pss_one (ps_expr (pe_call (ok39 T) (hr.mono (by decide)) (by rfl) T.f39.g T.f39.F.kp T.f39.b .nil pass0 (pa_cons (pv 4) (pa_cons pe_int (pa_cons (pe_callB (r := Evl.rLenS K) call_lenS (by rfl) T.z_len (by decide +kernel) (pa_cons (pv 1) pa_nil)) (pa_cons (pv 1) pa_nil))))))) (pss_cons (ps_setLc (i := 5) (g := gName 6) (tt := _) (own := [("value", 6)]) rfl sc49.nd rfl rfl (sw_true rfl rfl rfl (by decide +kernel)) (pi_tup (pe_slice (r := rSlF K) sl_tupF (pv 1) (po_some (pv 3)) po_none)) (blkOk_by (N := ["stack", "target", "reach", "floor", "site", "keep", "value"]) (sc := defScope (topS 49)) (own := [("value", 6)]) (by decide +kernel)) (fun _ _ _ _ _ => pg_name (i := 6) sc49.nd rfl (.inl rfl)) (fun _ _ _ _ _ => pts_one (pt_cmpR op_ne (pv 6) (pe_ix (r := rIx K) ix_seq (pv 0) (pv 3) (fun _ _ => rfl)) (nomark _))) (fun _ _ _ _ _ => pv 6))
      (pss_cons (ps_expr (pe_call (ok39 T) (hr.mono (by decide)) (by rfl) T.f39.g T.f39.F.kp T.f39.b .nil pass0 (pa_cons (pv 4) (pa_cons (pe_op op_add (pv 3) pe_int) (pa_cons (pe_op op_add (pe_op op_add (pv 3) (pv 2)) pe_int) (pa_cons (pv 5) pa_nil))))))
      (pss_one (ps_expr (pe_call (ok44 T) (hr.mono (by decide)) (by rfl) T.f44.g T.f44.F.kp T.f44.b .nil pass0 (pa_cons (pv 4) (pa_cons (pv 3) (pa_cons (pv 1) pa_nil)))))))))
      (pss_cons (ps_expr (pe_call (ok46 T) (hr.mono (by decide)) (by rfl) T.f46.g T.f46.F.kp T.f46.b .nil pass0 (pa_cons (pv 4) (pa_cons (pv 1) pa_nil))))
      (pss_cons (ps_expr (pe_call (ok47 T) (hr.mono (by decide)) (by rfl) T.f47.g T.f47.F.kp T.f47.b .nil pass0 (pa_cons (pv 4) (pa_cons (pv 1) pa_nil))))
      (pss_one (ps_ret (pe_callTy (r := rTupF K) call_tupF (by rfl) T.z_tuple (by decide +kernel) (pa_cons (pe_fldK (K := K) rfl (pv 4) rfl) pa_nil)))))))), fun g ws μ k eg h => ?_⟩)
  obtain ⟨rfl, S, U, r, f, rfl, pS, pU, hr2, hr3, hF, hk⟩ := h
  have eg : g.ms = [] := eg
  have hS := pS.len
  have hU := pU.len
  walk_at "cx"
  refine go_seq (go_set (ev_make ?_))
  walk_at "go"
  refine ⟨rfl, S, r, rfl, fun x dx c m => ?_⟩
  refine go_mid (fun δ' μ' => ∃ xs1 L1 y z, δ' = [.da (tS S), .da (tS U), dI r, dI f, .va (.ref x), y, z] ∧ μ' = siteM T.aS x dx c m xs1 r L1 ++ [] ∧ ClimbI U r xs1 ∧ (f = 0 ∨ f + r + 1 ≤ xs1.length) ∧ Runs r f S L1 xs1 ∧ L1.length ≤ 1000) ?_ ?_
  · walk_at "go"
    have em : (decide ((if (U.length : Int) < (S.length : Int) then (U.length : Int) else (S.length : Int)) ≤ (r : Int))) = decide (min S.length U.length ≤ r) := by
      apply decide_eq_decide.mpr
      split <;> omega
    rw [em]
    refine ⟨fun h => ?_, fun h => ?_⟩
    · have h' : min S.length U.length ≤ r := of_decide_eq_true h
      obtain ⟨f0, hsub⟩ := start_flat ltS_ord hF h'
      subst f0
      walk_at "go"
      refine ⟨x, dx, c, m, S, r, [], [], _, rfl, rfl, ⟨0, U.length, _, U, rfl, .inl rfl, by omega, by decide, fun hlt => ?_⟩, ?_⟩
      · have := nd_le ltS_ord U
        exact ⟨by omega, this, Nat.zero_le _⟩
      rintro w xs1 L1 ⟨rfl, hlow⟩
      obtain ⟨l1, l2, l3, l4, l5⟩ := hlow 0 U.length _ U rfl (.inl rfl)
      refine ⟨xs1, L1, _, _, rfl, rfl, ?_, .inl rfl, l4 S 0 (Nat.le_refl _) rfl, by simp at l5; omega⟩
      have hl : xs1.length ≤ U.length ∧ xs1.length ≤ r := by
        rw [l1]; split <;> omega
      refine ⟨hl.1, by rw [show xs1.length - r = 0 by omega]; rfl, fun v hv => ?_⟩
      rw [show xs1.length - r = 0 by omega] at hv ⊢
      exact l3 v (by simpa using hv) (by simpa using hsub v (by simpa using hv))
    · have h' : r < min S.length U.length := by
        have := of_decide_eq_false h
        omega
      have hroom : f + r + 1 ≤ min S.length U.length := by
        have := hF.room
        omega
      obtain ⟨e, he⟩ : ∃ e, S[f]? = some e := ⟨_, List.getElem?_eq_getElem (by omega)⟩
      refine go_seq (go_set (ev_compT (by simp) ?_))
      walk_at "go"
      refine os_from rfl ?_
      walk_at "go"
      refine ⟨fun d => !decide (strD d = e), id, by rw [List.length_map, List.length_drop]; omega, by rw [eg]; simp, fun d hd μ' => ?_, ?_⟩
      · obtain ⟨s, rfl, hs⟩ := mem_str hd
        walk_at "go"
        refine o_ixS rfl he ?_
        walk_at "go"
        refine ⟨rfl, rfl, fun _ => ?_⟩
        walk_at "go"
        exact ⟨rfl, rfl⟩
      rw [outD_str (q := fun s => !decide (s = e)) fun s _ => rfl]
      obtain ⟨keep, hkeep⟩ : ∃ keep, keep = (U.drop f).filter fun s => !decide (s = e) := ⟨_, rfl⟩
      rw [← hkeep]
      obtain ⟨k1, k2⟩ := start_keep ltS_ord hF h' he hkeep
      walk_at "go"
      rw [show (f : Int) + 1 = ((f + 1 : Nat) : Int) by omega, show (f : Int) + (r : Int) + 1 = ((f + r + 1 : Nat) : Int) by omega]
      refine ⟨x, dx, c, m, S, r, [], [], _, rfl, rfl, ⟨f + 1, f + r + 1, _, keep, rfl, .inr rfl, by omega, by decide, fun hlt => ⟨k1, by omega, by omega⟩⟩, ?_⟩
      rintro w xs1 L1 ⟨rfl, hlow⟩
      obtain ⟨l1, l2, l3, l4, l5⟩ := hlow (f + 1) (f + r + 1) _ keep rfl (.inr rfl)
      have hl : xs1.length = f + r + 1 := by
        rw [l1]; split <;> omega
      have hset := start_set ltS_ord hF h' hr2 he hkeep hl l2 fun v hv => l3 v hv (k2 v hv)
      refine go_drop (ev_callQ ?_)
      walk_at "go"
      refine ⟨x, dx, c, m, xs1, r, L1, [], _, rfl, rfl, _, ⟨f, U, rfl, hset, by omega, by omega, by simp at l5; omega, rfl⟩, ?_⟩
      rintro w xs2 L2 ⟨rfl, q1, q2, q3, q4⟩
      exact ⟨xs2, L2, _, _, rfl, rfl, q1, .inr (by omega), q3 S (l4 S f (Nat.le_succ _) rfl), by simp at l5; omega⟩
  rintro δ' μ' ⟨xs1, L1, y, z, rfl, rfl, c1, c2, c3, c4⟩
  have c1l := c1.len
  refine go_seq (go_drop (ev_callQ ?_))
  walk_at "go"
  refine ⟨x, dx, c, m, xs1, r, L1, [], _, rfl, rfl, _, ⟨U, rfl, c1, hr2, by omega, by omega, by omega, rfl⟩, ?_⟩
  rintro w xs2 L2 ⟨rfl, d1, d2, d3, d4⟩
  have d1l := d1.len
  refine go_seq (go_drop (ev_callQ ?_))
  walk_at "go"
  refine ⟨x, dx, c, m, xs2, r, L2, [], _, rfl, rfl, _, ⟨U, rfl, fin_of_climb d1 d2, by omega, hU, by omega, rfl⟩, ?_⟩
  rintro w xs3 L3 ⟨rfl, rfl, e2, e3⟩
  have hfin := e2 S f (by omega) (d3 S f c2 c3)
  have hna := T.na_made
  have hcl := T.clS
  walk_at "go"
  refine oc_tup_m (j := 2) rfl ?_
  refine ⟨[], [], List.nil_sublist _, by rw [eg]; rfl, hk L3 hfin (by omega)⟩
end
end De
end
section
set_option Elab.async false
set_option linter.all false
set_option maxRecDepth 100000
set_option maxHeartbeats 4000000
/-! building.py: build -/
namespace De
open PySem PySem.Spec PyProof.Rows L2
local macro_rules | `(tactic| walk_at "de") => `(tactic| first
  | with_reducible refine go_seq ?_
  | with_reducible refine go_set ?_
  | with_reducible refine go_ret ?_
  | with_reducible refine go_if ?_
  | with_reducible refine go_next ?_
  | with_reducible refine go_drop ?_
  | ((with_reducible apply ev_da); exact rfl)
  | ((with_reducible apply ev_va); exact rfl)
  | with_reducible refine ev_c ?_
  | with_reducible refine ev_op ?_
  | with_reducible refine ev_un ?_
  | with_reducible refine ea_nil ?_
  | with_reducible refine ea_cons ?_
  | with_reducible refine ev_sortset ?_
  | ((with_reducible apply ev_cells); (focus assumption); (focus assumption))
  | ((with_reducible apply ev_reach); (focus assumption); (focus assumption))
  | ((with_reducible apply ev_made); (focus assumption); (focus assumption))
  | with_reducible refine ev_height ?_
  | ((with_reducible apply ev_methS); (focus (decide +kernel)); (focus (decide +kernel)); (focus (decide +kernel)))
  | with_reducible refine ev_callS ?_
  | with_reducible refine ev_count ?_
  | with_reducible refine ev_tcount ?_
  | with_reducible refine oc_len_c ?_
  | with_reducible refine ev_cb ?_
  | with_reducible refine eb_test ?_
  | with_reducible refine eb_B ?_
  | with_reducible refine eb_and ?_
  | with_reducible refine eb_or ?_
  | with_reducible refine eb_not ?_
  | with_reducible refine ev_andV ?_
  | with_reducible refine ev_orV ?_
  | with_reducible refine ev_notV ?_
  | with_reducible refine ev_if ?_
  | with_reducible refine ev_sl ?_
  | with_reducible refine eo_no ?_
  | with_reducible refine eo_some ?_
  | with_reducible refine ev_tup' ?_
  | with_reducible refine ev_callX ?_
  | with_reducible refine ev_callP ?_
  | with_reducible refine ev_callNP ?_
  | with_reducible refine ev_call ?_
  | with_reducible refine ev_callN ?_
  | with_reducible refine ev_chain ?_
  | with_reducible refine o_I0 ?_
  | with_reducible refine o_eqI ?_
  | with_reducible refine o_neI ?_
  | with_reducible refine o_eqS ?_
  | with_reducible refine o_neS ?_
  | with_reducible refine o_isN ?_
  | with_reducible refine o_notN ?_
  | with_reducible refine o_ltS ?_
  | with_reducible refine o_U ?_
  | with_reducible refine oc_len_tS ?_
  | with_reducible refine oc_len_lS ?_
  | with_reducible refine oc_len_t ?_
  | with_reducible refine oc_len_l ?_
  | with_reducible refine o_ix0 ?_
  | with_reducible refine o_ix1 ?_
  | with_reducible refine ev_dnew ?_
  | with_reducible refine oc_isiT ?_
  | with_reducible refine oc_isiTL ?_
  | with_reducible refine oc_isiI ?_
  | with_reducible refine oc_isiIB ?_
  | with_reducible refine oc_isiS ?_
  | with_reducible refine oc_min2 ?_
  | with_reducible refine oc_max2 ?_
  | with_reducible refine oc_abs ?_
  | with_reducible refine oc_tup_lS ?_
  | with_reducible refine oc_tup_l ?_
  | with_reducible refine o_inF ?_
  | with_reducible refine o_inT ?_
  | with_reducible refine o_inLF ?_
  | with_reducible refine o_inLT ?_
  | with_reducible refine eb_yes ?_
  | (refine Exists.intro _ (Exists.intro _ (Exists.intro _ (Exists.intro _ (Exists.intro _ (Exists.intro _ (Exists.intro _ (Exists.intro _ (And.intro rfl (And.intro rfl ?_))))))))))
  | (refine Exists.intro _ (And.intro (show dats _ = some _ from rfl) (And.intro (show Nat.ble _ 60 = true from rfl) ?_)))
  | with_reducible refine Exists.intro _ (And.intro rfl ?_))
local macro_rules | `(tactic| walk_at "cx") => `(tactic| try simp only [cx_K, cx_K'])
local macro_rules | `(tactic| walk_at "go") => `(tactic| repeat walk_at "de")

section
variable {P : Program} {w : World} {K : PySem.W.Frag} {mg : Str → Option Value} {base : Heap}
theorem sc50 : FnScope ["stack", "target", "reach", "floor", "word", "found"] ["stack", "target", "reach", "floor"] (defScope (topS 50)) := ⟨rfl, rfl, rfl, by decide +kernel, rfl, by decide +kernel, by decide +kernel⟩
def certP (S T : List Str) (k : Nat) (w : Why Str) : PyData := .tuple ([.int (depth ltS T k), tS (if 0 < depth ltS T k then (vals ltS T k).take (k + 1) else [])] ++ whyT w)
theorem toldD_none {S T : List Str} {k : Nat} (h : barr S T k = none) : toldD S T k = [.str "reached", .int (depth ltS T k)] := by unfold toldD; rw [h]
theorem toldD_some {S T : List Str} {k : Nat} {w : Why Str} (h : barr S T k = some w) : toldD S T k = [.str "blocked", certP S T k w] := by unfold toldD; rw [h]; rfl
def R50 (ws : List Sl) (Po : Out → Prop) : Prop := ∃ (S T : List Str) (r : Nat), ws = [.da (tS S), .da (tS T), dI r, dN] ∧ Pil S ∧ Pil T ∧ 2 ≤ r ∧ r ≤ 60 ∧
  (barr S T r = none → ∀ L : List Ins, Runs r (depth ltS T r) S L T → L.length ≤ 60000 → Po (.inl (dT (L.map insD)))) ∧
  ∀ w, barr S T r = some w → Po (.inr (.da (certP S T r w)))
theorem ok50 (T : Ty K mg) : FnOk P w K mg base (L2.CX P w) 9 T.f50.a T.f50.d ["stack", "target", "reach", "floor"] (spY K T.x16.C "certificate" R50) := by
  refine fn_goY (n := 8) (R := R50) T.f50.F sc50 (fun ws Po h => by obtain ⟨_, _, _, h, _⟩ := h; rw [h]; rfl) (fun cdv A outer s H E hr => ⟨_, (pss_cons (ps_asg (pe_callN (ok11 T.toTx) (hr.mono (by decide)) (by rfl) T.f11.g T.f11.F.kp T.f11.k pass0 (pa_cons (pv 0) (pa_cons (pv 1) pa_nil)) (pk_cons (pv 2) pk_nil)) (pg_tup rfl (pgs_cons (pg_name (i := 4) sc50.nd rfl (.inl rfl)) (pgs_cons (pg_name (i := 5) sc50.nd rfl (.inl rfl)) pgs_nil))))
      (pss_cons (ps_if (pt_cmpR op_eq (pv 4) pe_str (nomark _)) (pss_one (ps_raise rfl (takes_of rfl rfl rfl rfl) (pmk_oex (C := T.x16.C) T.x16.ox T.x16.ic T.x16.ti (okx16 T) (hr.mono (by decide)) T.x16.b .nil pass0 (by rfl) T.x16.g (pa_cons (pv 5) pa_nil)))) pss_nil)
      (pss_cons (ps_if (pt_cmpR op_isN (pv 3) pe_non (nomark _)) (pss_one (ps_ret (pe_call (ok49 T.toTx) (hr.mono (by decide)) (by rfl) T.f49.g T.f49.F.kp T.f49.b .nil pass0 (pa_cons (pv 0) (pa_cons (pv 1) (pa_cons (pv 2) (pa_cons (pv 5) pa_nil))))))) pss_nil)
      (pss_cons (ps_if (PW.pt (pw_or (pt_not (pt_val (pe_call (ok20 T.toTx) (hr.mono (by decide)) (by rfl) T.f20.g T.f20.F.kp T.f20.b .nil pass0 (pa_cons (pv 3) (pa_cons pe_int (pa_cons (pe_callB (r := Evl.rLenS K) call_lenS (by rfl) T.z_len (by decide +kernel) (pa_cons (pv 0) pa_nil)) pa_nil)))))) (pw_or1 (pt_cmpR (r := rIn K true) op_notIn_seq (pv 3) (pe_callN (ok5 T.toTx) (hr.mono (by decide)) (by rfl) T.f5.g T.f5.F.kp T.f5.k pass0 (pa_cons (pv 0) (pa_cons (pv 1) pa_nil)) (pk_cons (pv 2) pk_nil)) (by rfl))))) (pss_one (ps_never)) pss_nil)
      (pss_one (ps_ret (pe_call (ok49 T.toTx) (hr.mono (by decide)) (by rfl) T.f49.g T.f49.F.kp T.f49.b .nil pass0 (pa_cons (pv 0) (pa_cons (pv 1) (pa_cons (pv 2) (pa_cons (pv 3) pa_nil))))))))))), fun g ws Po eg h hx => ?_⟩)
  obtain ⟨S, U, r, rfl, pS, pU, hr2, hr3, hn, hs⟩ := h
  walk_at "cx"
  cases hb : barr S U r with
  | none =>
    refine go_seq (go_unpack (is := [4, 5]) rfl ?_)
    walk_at "go"
    refine ⟨rfl, rfl, dT [.str "reached", .int (depth ltS U r)], ⟨S, U, r, rfl, pS, pU, by rw [toldD_none hb]⟩, ?_⟩
    refine ⟨_, rfl, rfl, ?_⟩
    walk_at "go"
    refine ⟨fun h => absurd h (by decide +kernel), fun _ => ?_⟩
    walk_at "go"
    refine ⟨fun _ => ?_, fun h => absurd h (by decide)⟩
    walk_at "go"
    refine ⟨[], [], rfl, List.nodup_nil, _, ⟨rfl, S, U, r, depth ltS U r, rfl, pS, pU, hr2, hr3, floor_depth ltS_ord (barrier_none.mp hb), fun L hL hl => ?_⟩, fun w' μ' news e1 h1 => h1⟩
    exact hn hb L hL hl
  | some y =>
    refine go_seq (go_unpack (is := [4, 5]) rfl ?_)
    walk_at "go"
    refine ⟨rfl, rfl, dT [.str "blocked", certP S U r y], ⟨S, U, r, rfl, pS, pU, by rw [toldD_some hb]⟩, ?_⟩
    refine ⟨_, rfl, rfl, ?_⟩
    walk_at "go"
    refine ⟨fun _ => ?_, fun h => absurd h (by decide +kernel)⟩
    exact go_raise (ev_da rfl (hx _ (hs y hb))) fun hm hq => mono_var hm hq
end
end De
end
section
set_option Elab.async false
set_option linter.all false
set_option maxRecDepth 100000
set_option maxHeartbeats 2000000
/-! A generator def that is walked by its caller: for in its body; the state cut at its frame. -/
namespace De
open PySem L2 PySem.Spec PyProof.Rows GenW
open Sem (wp)
section
variable {prog : Program} {w : World} {A : Around} {R : GenEnd} {Y : Protocol} {n : Nat} {s₀ : Shared} {c : Code} {fs : List Frame} {s : Shared} {env : Env}
  {K : Flow → Sem PySem.Fin} {J : Value → Sem PySem.Fin} {gd : Bool → Bool} {lv : List Value → List Value}
/-- what a loop's call does with the loop's end -/
abbrev forK (env : Env) (K : Flow → Sem PySem.Fin) (J : Value → Sem PySem.Fin) (gd : Bool → Bool) (lv : List Value → List Value) : Result → Sem PySem.Fin :=
  fun r => ((match r with | .ok f => (.pure f : Sem Flow) | .error e => .raise e).onRaise (cameBack env)).wrap K J gd lv
theorem segw_for {target iter : Expr} {body : List Stmt} {pos : Pos} (hs : ∀ x, foldedSetIterable iter env x = pure x)
    (h : wpAny (model prog w) (A.over c fs) (eval iter env) (fun v s1 => wpAny (model prog w) (A.over c fs) (pyIter v) (fun it s2 => ∀ p,
      Seg (model prog w) A R Y n s₀ (.forLoop target it body [] env) ((model prog w).den (.forLoop target it body [] env)) (.ret (forK env K J gd lv) none (gd false) (lv []) c p [] :: fs) s2)
      (fun _ _ => False) s1) (fun _ _ => False) s) :
    Seg (model prog w) A R Y n s₀ c ((exec (.For target iter body [] pos) env).wrap K J gd lv) fs s := by
  rw [exec_For]
  refine seg_bind_wrap (wpAny_standAt ?_)
  refine seg_bind_wrap (wpAny_mono h (fun v s1 h1 => ?_) fun _ _ x => x.elim)
  rw [hs v]
  refine seg_bind_wrap (wpAny_pure ?_)
  refine seg_bind_wrap (wpAny_standAt ?_)
  refine seg_bind_wrap (wpAny_holding (wpAny_mono h1 (fun it s2 h2 => ?_) fun _ _ x => x.elim))
  exact seg_call h2
/-- one turn -/
theorem seg_forTurn {target : Expr} {body : List Stmt} {it : Value}
    (h : wpAny (model prog w) (A.over (.forLoop target it body [] env) fs) (pyNext it) (fun r s1 => match r with
      | none => Seg (model prog w) A R Y n s₀ (.block [] env) ((model prog w).den (.block [] env)) fs s1
      | some v => wpAny (model prog w) (A.over (.forLoop target it body [] env) fs) (letOwnedTupleGo target it v) (fun _ s2 => wpAny (model prog w) (A.over (.forLoop target it body [] env) fs) (assign target env v) (fun _ s3 =>
          ∀ (J : Value → Sem PySem.Fin), Seg (model prog w) A R Y n s₀ (.forLoop target it body [] env) ((execs body env).wrap (fun f => match f with
            | .next | .cont => .pure (.again (.forLoop target it body [] env))
            | .brk => .pure (.done .next)
            | .ret v => .pure (.done (.ret v))) J id id) fs s3) (fun _ _ => False) s2) (fun _ _ => False) s1) (fun _ _ => False) s) :
    Seg (model prog w) A R Y n s₀ (.forLoop target it body [] env) ((model prog w).den (.forLoop target it body [] env)) fs s := by
  show Seg _ A R Y n s₀ _ ((forTurn target it body [] env).onRaise (fun x => do noteFrame x env; theTreesLotGoes x)) fs s
  rw [Sem.onRaise_eq_wrap]
  unfold forTurn
  refine seg_bind_wrap (wpAny_standAt ?_)
  refine seg_bind_wrap (wpAny_onRaise (wpAny_mono h (fun r s1 h1 => ?_) fun _ _ x => x.elim))
  cases r with
  | none => exact seg_again rfl h1
  | some v =>
    refine seg_bind_wrap (wpAny_mono h1 (fun _ s2 h2 => ?_) fun _ _ x => x.elim)
    refine seg_bind_wrap (wpAny_mono h2 (fun _ s3 h3 => ?_) fun _ _ x => x.elim)
    rw [Sem.bind_eq_wrap', Sem.wrap_wrap]
    rw [Sem.wrap_congr (execs body env) _ _ (K' := fun f => match f with
            | .next | .cont => .pure (.again (.forLoop target it body [] env))
            | .brk => .pure (.done .next)
            | .ret v => .pure (.done (.ret v))) (H' := _) (fun f => by cases f <;> rfl) (fun e => rfl)]
    exact h3 _
theorem seg_blockNil {p : Pos} {l kp : List Value} {g : Bool} (h : Seg (model prog w) A R Y n s₀ c (K .next) fs s) :
    Seg (model prog w) A R Y n s₀ (.block [] env) ((model prog w).den (.block [] env)) (.ret (forK env K J gd lv) none g l c p kp :: fs) s := by
  show Seg _ A R Y n s₀ _ (leafOf (.ok .next)) _ s
  exact seg_leaf (.ok .next) h
theorem seg_forAgain {c' : Code} {p : Pos} {l kp : List Value} {g : Bool} (hq : c'.quiet = true) (h : Seg (model prog w) A R Y n s₀ c' ((model prog w).den c') fs s) :
    Seg (model prog w) A R Y n s₀ c (.pure (.again c')) fs s := seg_again hq h
end
/-! ### the state cut at L -/
def cutH (h : Heap) (L : Nat) : Heap := { h with objs := h.objs.extract 0 L }
theorem cut_get {h : Heap} {L b : Nat} : (cutH h L).get? b = if b < L then h.get? b else none := by
  unfold cutH Heap.get?
  by_cases hb : b < L
  · rw [if_pos hb]
    by_cases h2 : b < h.objs.size
    · have h3 : b < min L h.objs.size := by omega
      have h4 : h.objs[b]? = some h.objs[b] := Array.getElem?_eq_getElem h2
      simp [Array.getElem?_extract, h3, h4]
    · have h3 : ¬ b < min L h.objs.size := by omega
      have h4 : h.objs[b]? = none := by simp; omega
      simp [Array.getElem?_extract, h3, h4]
  · rw [if_neg hb]
    have h3 : ¬ b < min L h.objs.size := by omega
    simp [Array.getElem?_extract, h3]
theorem cut_size {h : Heap} {L : Nat} (hL : L ≤ h.objs.size) : (cutH h L).objs.size = L := by
  unfold cutH
  simp
  omega
def cutS (s : Shared) (L : Nat) : Shared := { s with heap := cutH s.heap L }
theorem cut_lt {h : Heap} {L b : Nat} {o : Obj} (e : (cutH h L).get? b = some o) : b < L ∧ h.get? b = some o := by
  rw [cut_get] at e
  split at e
  · exact ⟨by assumption, e⟩
  · cases e
/-! ### awake -/
section
variable {P : Program} {w : World} {K : PySem.W.Frag} {mg : Str → Option Value} {base : Heap} {N ps : List Str} {qual : Str} {scope : Scope} {f : Addr} {cd : Value} {A : Around} {outer : List Env} {s0 s : Shared} {H : Hp} {E : XK}
/-- the context of a generator's body, awake: s0 is cut at its frame -/
abbrev Xg (P : Program) (w : World) (K : PySem.W.Frag) (mg : Str → Option Value) (base : Heap) (N : List Str) (qual : Str) (scope : Scope) (f : Addr) (cd : Value) (A : Around) (outer : List Env) (s0 : Shared) (H : Hp) : Cx :=
  (cxOf CX0 P w K mg base N qual scope f cd A outer s0 H (fun _ _ _ => False)).nox
/-- what a waking generator finds of its callers -/
structure Awk (P : Program) (w : World) (K : PySem.W.Frag) (mg : Str → Option Value) (base : Heap) (A : Around) (outer : List Env) (L : Addr) (s : Shared) (H : Hp) : Prop where
  hd : A.handled = none
  frames : A.frames = some outer
  mod : Mod K mg base
  bs : ∀ b o, base.get? b = some o → s.heap.get? b = some o ∧ H b = none
  bsz : base.objs.size ≤ L
  lt : L < s.heap.objs.size
  funs : s.heap.FunFrames base outer
  frl : ∀ b ∈ frs outer, b < L
  frf : ∀ b ∈ frs outer, H b = none
  bare : AllBare s.gens
  free : H L = none
  hok : HOk P w H s.heap
theorem funs_cut {L : Nat} {h : Heap} : ∀ {l : List Env}, h.FunFrames base l → (∀ b ∈ frs l, b < L) → (cutH h L).FunFrames base l
  | [], _, _ => trivial
  | env :: rest, hl, hb => by
    obtain ⟨hk, ⟨F, o, hf, hn, ho, hd⟩, hr⟩ := hl
    have e : frs (env :: rest) = F :: frs rest := by
      show List.filterMap (·.frame) (env :: rest) = _
      rw [List.filterMap_cons, hf]
      rfl
    refine ⟨hk, ⟨F, o, hf, hn, ?_, hd⟩, funs_cut hr fun b hm => hb b (by rw [e]; exact List.mem_cons_of_mem _ hm)⟩
    rw [cut_get, if_pos (hb F (by rw [e]; exact List.mem_cons_self))]
    exact ho
theorem inv_wake {L : Addr} {pins : List (Addr × Obj)} {σ : L2.St} (hk : scope.kind = .function) (nc : ∀ n, cellsFrom n scope.names [] = []) (nn : ∀ x, scope.names.lookup x ≠ some .cell ∧ scope.names.lookup x ≠ some .free) (a : Awk P w K mg base A outer L s H)
    (loc : ∃ m, s.heap.Ns L m ∧ ∀ (i : Nat) (x : Str) (v : V), N[i]? = some x → σ[i]? = some (some v) → scope.names.lookup x = some .local → ∃ u, RelV v u ∧ m x = some u)
    (pin : ∀ p ∈ pins, s.heap.get? p.1 = some p.2 ∧ H p.1 = none ∧ p.1 ≠ L ∧ p.1 ∉ frs outer ∧ ∀ v, p.2.data ≠ .cell v) (len : σ.length = N.length) :
    Inv (Xg P w K mg base N qual scope f cd A outer (cutS s L) H) pins σ H s := by
  have eL : (cutS s L).heap.objs.size = L := cut_size (Nat.le_of_lt a.lt)
  have nl : ∀ y c, ¬ (Xg P w K mg base N qual scope f cd A outer (cutS s L) H).env.cells.lookup y = some c := fun y c h => by
    have h' : (cellsFrom ((cutS s L).heap.objs.size + 1) scope.names []).lookup y = some c := h
    rw [nc] at h'
    cases h'
  have lb : ∀ b o, base.get? b = some o → b < L := fun b o e => Nat.lt_of_lt_of_le (Heap.lt_size e) a.bsz
  refine ⟨⟨a.mod, hk, rfl, rfl, Nat.le_refl _, fun y z c h1 h2 => absurd h1 (nl y c), fun y hy => ?_, fun y c _ h => absurd h (nl y c), fun _ => a.hd, Around.frames_deeper a.frames, .inr ⟨rfl, rfl⟩, fun b z => (by cases z),
    fun b o e => ⟨?_, (a.bs b o e).2⟩, ?_, fun b o e z => (by cases z), fun b z => (by cases z), funs_cut a.funs a.frl, a.frf⟩,
    rfl, a.bare, Un.kept fun b o e => (cut_lt e).2, ?_, fun y c h => absurd h (nl y c), ?_, fun y c h => absurd h (nl y c), fun p hp => ?_, a.hok, len⟩
  · have hy : scope.names.lookup y = some .cell ∨ scope.names.lookup y = some .free := hy
    rcases hy with hy | hy
    · exact absurd hy (nn y).1
    · exact absurd hy (nn y).2
  · show (cutH s.heap L).get? b = some o
    rw [cut_get, if_pos (lb b o e)]
    exact (a.bs b o e).1
  · show base.objs.size ≤ (cutS s L).heap.objs.size
    rw [eL]; exact a.bsz
  · obtain ⟨m, h1, h2⟩ := loc
    refine ⟨m, ?_, fun i x v e1 e2 e3 => ?_⟩
    · show s.heap.Ns (cutS s L).heap.objs.size m
      rw [eL]; exact h1
    · have e3 : scope.names.lookup x = some .local := by
        rcases e3 with z | z | z
        · exact z
        · exact absurd z (nn x).1
        · exact absurd z (nn x).2
      obtain ⟨u, r, hu⟩ := h2 i x v e1 e2 e3
      exact ⟨u, r, .inl ⟨e3, hu⟩⟩
  · show H (cutS s L).heap.objs.size = none
    rw [eL]; exact a.free
  · have hp : p ∈ pins := (List.mem_append.mp hp).elim (fun z => (by cases (show p ∈ ([] : List (Addr × Obj)) from z))) id
    obtain ⟨q1, q2, q3, q4, q5⟩ := pin p hp
    refine ⟨q1, q2, ?_, q4, q5⟩
    show p.1 ≠ (cutS s L).heap.objs.size
    rw [eL]; exact q3
end
end De
end
section
set_option Elab.async false
set_option linter.all false
set_option maxRecDepth 100000
set_option maxHeartbeats 2000000
/-! A generator's turn: what it leaves as it was; how it wakes. -/
namespace De
open PySem L2 PySem.Spec PyProof.Rows GenW
/-! ### what never changes, frozen as it stands -/
def fzo (o : Obj) : HO → Option HO
  | .frz ob (.tup xs) => some (.frz ob (.tup xs))
  | .frz ob (.lst xs) => some (.frz ob (.lst xs))
  | .lst xs => some (.frz o (.lst xs))
  | _ => none
def fz (B : Hp) (h : Heap) : Hp := fun b => match B b, h.get? b with
  | some u, some o => fzo o u
  | _, _ => none
section
variable {P : Program} {w : World} {K : PySem.W.Frag} {B H : Hp} {h h' : Heap}
theorem fz_cases {b : Addr} {u : HO} (e : fz B h b = some u) : (∃ ob xs, u = .frz ob (.tup xs) ∧ B b = some (.frz ob (.tup xs))) ∨ (∃ ob xs, u = .frz ob (.lst xs) ∧ B b = some (.frz ob (.lst xs))) ∨ ∃ o xs, u = .frz o (.lst xs) ∧ B b = some (.lst xs) ∧ h.get? b = some o := by
  unfold fz at e
  split at e
  · rename_i v o eb eo
    unfold fzo at e
    split at e
    · cases e; exact .inl ⟨_, _, rfl, eb⟩
    · cases e; exact .inr (.inl ⟨_, _, rfl, eb⟩)
    · cases e; exact .inr (.inr ⟨_, _, rfl, eb, eo⟩)
    · cases e
  · cases e
theorem fz_some {b : Addr} (e : fz B h b ≠ none) : B b ≠ none := fun z => by
  apply e
  unfold fz
  rw [z]
theorem fz_at (hs : Same B H) (hok : HOk P w H h) {b : Addr} {u : HO} (e : fz B h b = some u) : ∃ ob v, u = .frz ob v ∧ h.get? b = some ob := by
  rcases fz_cases e with ⟨ob, xs, rfl, eb⟩ | ⟨ob, xs, rfl, eb⟩ | ⟨o, xs, rfl, eb, eo⟩
  · exact ⟨_, _, rfl, (hok b _ (hs b _ eb)).1⟩
  · exact ⟨_, _, rfl, (hok b _ (hs b _ eb)).1⟩
  · exact ⟨_, _, rfl, eo⟩
theorem fz_hok (hs : Same B H) (hok : HOk P w H h) : HOk P w (fz B h) h := fun b u e => by
  rcases fz_cases e with ⟨ob, xs, rfl, eb⟩ | ⟨ob, xs, rfl, eb⟩ | ⟨o, xs, rfl, eb, eo⟩
  · exact hok b _ (hs b _ eb)
  · exact hok b _ (hs b _ eb)
  · exact ⟨eo, hok b _ (hs b _ eb)⟩
/-- such a heap is held wherever its objects stand -/
theorem fz_keep (hok : HOk P w (fz B h) h) (k : ∀ b u, fz B h b = some u → ∀ o, h.get? b = some o → h'.get? b = some o) : HOk P w (fz B h) h' := fun b u e => by
  refine (hok b u e).stay (fun c v hc q => ?_) (fun _ q => q) fun _ _ q => q
  rcases hc with rfl | hc
  · exact k _ u e v q
  · exact k _ _ hc v q
theorem fz_tup (hs : Same B H) (hok : HOk P w H h) {b : Addr} {ob : Obj} {xs : List V} (e : B b = some (.frz ob (.tup xs))) : fz B h b = some (.frz ob (.tup xs)) := by
  have q := (hok b _ (hs b _ e)).1
  unfold fz
  rw [e, q]
  rfl
theorem fz_rdl (hs : Same B H) (hok : HOk P w H h) {b : Addr} {xs : List V} (e : Rd B b (.lst xs)) : Rd (fz B h) b (.lst xs) := by
  rcases e with e | ⟨ob, e⟩
  · obtain ⟨_, its, n, _, q⟩ := hok b _ (hs b _ e)
    refine .inr ⟨{ cls := .type "list", data := .seq its.toArray n }, ?_⟩
    unfold fz
    rw [e, q]
    rfl
  · have q := (hok b _ (hs b _ e)).1
    refine .inr ⟨ob, ?_⟩
    unfold fz
    rw [e, q]
    rfl
mutual
theorem fz_dp (hs : Same B H) (hok : HOk P w H h) : ∀ {v : V} {d : PyData}, Dp K B v d → Dp K (fz B h) v d
  | _, _, .non => .non
  | _, _, .bl b => .bl b
  | _, _, .int i => .int i
  | _, _, .str x => .str x
  | _, _, .lst q a => .lst (q.elim (fun z => .inl (fz_rdl hs hok z)) .inr) (fz_dpAll hs hok a)
  | _, _, .tup q a => .tup (let ⟨ob, e, b⟩ := q; ⟨ob, fz_tup hs hok e, b⟩) (fz_dpAll hs hok a)
theorem fz_dpAll (hs : Same B H) (hok : HOk P w H h) : ∀ {vs : List V} {ds : List PyData}, DpAll K B vs ds → DpAll K (fz B h) vs ds
  | _, _, .nil => .nil
  | _, _, .cons q a => .cons (fz_dp hs hok q) (fz_dpAll hs hok a)
end
end
/-! ### the generator's frame and what is around it -/
structure GP where
  P : Program
  w : World
  K : PySem.W.Frag
  mg : Str → Option Value
  base : Heap
  N : List Str
  qual : Str
  scope : Scope
  f : Addr
  cd : Value
  A : Around
  outer : List Env
  L : Addr
  M : Addr
  U : List Addr
  Hc : Hp
  H0 : Hp
structure GP.Ok (G : GP) : Prop where
  hk : G.scope.kind = .function
  nc : ∀ n, cellsFrom n G.scope.names [] = []
  nn : ∀ x, G.scope.names.lookup x ≠ some .cell ∧ G.scope.names.lookup x ≠ some .free
  mod : Mod G.K G.mg G.base
  hd : G.A.handled = none
  frames : G.A.frames = some G.outer
  bsz : G.base.objs.size ≤ G.L
  LM : G.L + 1 < G.M
  hcL : ∀ b, G.Hc b ≠ none → b < G.L
  uM : ∀ u ∈ G.U, u < G.M ∧ u ≠ G.L
  uB : ∀ u ∈ G.U, G.base.get? u = none
  frl : ∀ b ∈ frs G.outer, b < G.L
abbrev GP.X (G : GP) (s : Shared) (H : Hp) : Cx := Xg G.P G.w G.K G.mg G.base G.N G.qual G.scope G.f G.cd G.A G.outer (cutS s G.L) H
/-- awake at s; H: what it knows, all frozen -/
structure Wk (G : GP) (s : Shared) (H : Hp) : Prop where
  hfz : ∀ b u, H b = some u → ∃ ob v, u = .frz ob v ∧ s.heap.get? b = some ob
  hok : HOk G.P G.w H s.heap
  bs : ∀ b o, G.base.get? b = some o → s.heap.get? b = some o ∧ H b = none
  lt : G.L < s.heap.objs.size
  funs : s.heap.FunFrames G.base G.outer
  frf : ∀ b ∈ frs G.outer, H b = none
  bare : AllBare s.gens
  free : H G.L = none
  uN : ∀ u ∈ G.U, H u = none
  uE : ∀ u ∈ G.U, ∃ o, s.heap.get? u = some o ∧ ∀ v, o.data ≠ .cell v
  hold : ∀ b, G.Hc b ≠ none → ∃ o, s.heap.get? b = some o
  dom : ∀ t, H t ≠ none → G.Hc t = none ∨ H t = G.H0 t
  mx : ∃ o, s.heap.get? (G.M - 1) = some o ∧ ∀ v, o.data ≠ .cell v
def notCell (o : Obj) : Bool := match o.data with | .cell _ => false | _ => true
theorem notCell_iff {o : Obj} : notCell o = true ↔ ∀ v, o.data ≠ .cell v := by
  unfold notCell
  constructor
  · intro h v e
    rw [e] at h
    cases h
  · intro h
    cases e : o.data <;> first | rfl | exact absurd e (h _)
/-- all else that stands above its frame -/
def pinsAll (L : Addr) (s : Shared) (H : Hp) (fp : List Addr) : List (Addr × Obj) :=
  (List.range s.heap.objs.size).filterMap fun b => match s.heap.get? b with
    | some o => if L < b ∧ (H b).isNone = true ∧ b ∉ fp ∧ notCell o = true then some (b, o) else none
    | none => none
theorem mem_pinsAll {L : Addr} {s : Shared} {H : Hp} {fp : List Addr} {p : Addr × Obj} : p ∈ pinsAll L s H fp ↔ s.heap.get? p.1 = some p.2 ∧ L < p.1 ∧ H p.1 = none ∧ p.1 ∉ fp ∧ ∀ v, p.2.data ≠ .cell v := by
  unfold pinsAll
  rw [List.mem_filterMap]
  constructor
  · rintro ⟨b, hb, e⟩
    split at e
    · rename_i o eo
      split at e
      · rename_i hc
        obtain ⟨h1, h2, h3, h4⟩ := hc
        cases e
        exact ⟨eo, h1, Option.isNone_iff_eq_none.mp h2, h3, notCell_iff.mp h4⟩
      · cases e
    · cases e
  · rintro ⟨h0, h1, h2, h3, h4⟩
    refine ⟨p.1, List.mem_range.mpr (Heap.lt_size h0), ?_⟩
    rw [h0]
    dsimp only
    rw [if_pos ⟨h1, Option.isNone_iff_eq_none.mpr h2, h3, notCell_iff.mpr h4⟩]
/-- a stretch between two yields: begun at s₀ -/
structure Rn (G : GP) (s₀ : Shared) (H₀ : Hp) (fp : List Addr) (δ : List Sl) (s : Shared) (σ : L2.St) (H B : Hp) : Prop where
  I : Inv (G.X s₀ H₀) (pinsAll G.L s₀ H₀ fp) σ H s
  c : Cta G.K ⟨H₀, H₀, []⟩ δ [] σ H B
/-- what a turn leaves as it was -/
structure Mvd (outer : List Env) (L M : Addr) (s s1 : Shared) : Prop where
  os : s1.os = s.os
  bare : AllBare s1.gens
  keep : ∀ b o, s.heap.get? b = some o → b ≠ L → (b < M ∨ Bare o) → (L < b → ∀ v, o.data ≠ .cell v) → b ∉ frs outer → s1.heap.get? b = some o
  slot : ∀ b o, s.heap.get? b = some o → b ∈ frs outer → ∃ sl, s1.heap.get? b = some { o with slots := sl }
  lim : s1.heap.NoLimit
/-- what happens while it sleeps -/
structure Slp (G : GP) (s1 s2 : Shared) : Prop where
  os : s2.os = s1.os
  bare : AllBare s2.gens
  keep : ∀ b o, b ∉ G.U → s1.heap.get? b = some o → s2.heap.get? b = some o
  funs : s2.heap.FunFrames G.base G.outer
  uE : ∀ u ∈ G.U, ∃ o, s2.heap.get? u = some o ∧ ∀ v, o.data ≠ .cell v
section
variable {G : GP} {s₀ s s2 : Shared} {H₀ H B : Hp} {fp : List Addr} {δ : List Sl} {σ : L2.St}
theorem Wk.cut (k : Wk G s₀ H₀) {b : Addr} {o : Obj} (hb : b < G.L) (e : s₀.heap.get? b = some o) : (G.X s₀ H₀).s_0.heap.get? b = some o := by
  show (cutH s₀.heap G.L).get? b = some o
  rw [cut_get, if_pos hb]
  exact e
theorem Rn.mvd (r : Rn G s₀ H₀ fp δ s σ H B) (ok : G.Ok) (k : Wk G s₀ H₀) (hfp : ∀ b ∈ fp, G.M ≤ b ∧ ∀ o, s₀.heap.get? b = some o → ¬ Bare o) : Mvd G.outer G.L G.M s₀ s := by
  refine ⟨r.I.os, r.I.bare, fun b o e hL hM hc hf => ?_, fun b o e hf => ?_, r.I.nolimit⟩
  · cases q : H₀ b with
    | some u =>
      obtain ⟨ob, v, rfl, eo⟩ := k.hfz b u q
      rw [e] at eo
      cases eo
      exact (r.I.hok b _ (r.I.base.frzs b _ _ q)).1
    | none =>
      rcases Nat.lt_or_ge b G.L with z | z
      · exact r.I.base.keep b o (k.cut z e) q hf (fun z => by cases z)
      · have z : G.L < b := Nat.lt_of_le_of_ne z (Ne.symm hL)
        have hnf : b ∉ fp := fun hm => by
          obtain ⟨h1, h2⟩ := hfp b hm
          rcases hM with y | y
          · exact absurd y (Nat.not_lt_of_le h1)
          · exact h2 o e y
        exact (r.I.pin (b, o) (List.mem_append_right _ (mem_pinsAll.mpr ⟨e, z, q, hnf, hc z⟩))).1
  · exact r.I.base.slot b o (k.cut (ok.frl b hf) e) (k.frf b hf) hf (fun z => by cases z)
/-- untracked objects stay so -/
theorem Rn.unk (r : Rn G s₀ H₀ fp δ s σ H B) (k : Wk G s₀ H₀) {b : Addr} {o : Obj} (e : s₀.heap.get? b = some o) (q : H₀ b = none) (h : b < G.L ∨ (G.L < b ∧ b ∉ fp ∧ ∀ v, o.data ≠ .cell v)) : B b = none := by
  have hn : H b = none := by
    rcases h with z | ⟨z, h1, h2⟩
    · exact r.I.base.free b o (k.cut z e) q (fun z => by cases z)
    · exact (r.I.pin (b, o) (List.mem_append_right _ (mem_pinsAll.mpr ⟨e, z, q, h1, h2⟩))).2.1
  exact r.c.free hn
/-- the youngest of what its caller knows stands still -/
theorem Rn.top (r : Rn G s₀ H₀ fp δ s σ H B) (ok : G.Ok) (k : Wk G s₀ H₀) (hfu : ∀ b ∈ fp, G.M ≤ b) : ∃ o, s.heap.get? (G.M - 1) = some o ∧ ∀ v, o.data ≠ .cell v := by
  obtain ⟨o, e, hc⟩ := k.mx
  have lm := ok.LM
  cases q : H₀ (G.M - 1) with
  | some u =>
    obtain ⟨ob, v, rfl, eo⟩ := k.hfz _ u q
    rw [e] at eo
    cases eo
    exact ⟨o, (r.I.hok _ _ (r.I.base.frzs _ _ _ q)).1, hc⟩
  | none => exact ⟨o, (r.I.pin (G.M - 1, o) (List.mem_append_right _ (mem_pinsAll.mpr ⟨e, Nat.lt_sub_of_add_lt lm, q, fun hm => absurd (hfu _ hm) (Nat.not_le_of_lt (Nat.sub_lt (Nat.lt_of_le_of_lt (Nat.zero_le _) lm) Nat.one_pos)), hc⟩))).1, hc⟩
theorem Rn.wake (r : Rn G s₀ H₀ fp δ s σ H B) (ok : G.Ok) (k : Wk G s₀ H₀) (hfu : ∀ b ∈ fp, G.M ≤ b) (z : Slp G s s2) : Wk G s2 (fz B s.heap) := by
  have hs : Same B H := r.c.bh
  have uN : ∀ u ∈ G.U, B u = none := fun u hu => by
    obtain ⟨o, e, hc⟩ := k.uE u hu
    obtain ⟨h1, h2⟩ := ok.uM u hu
    refine r.unk k e (k.uN u hu) ?_
    rcases Nat.lt_or_ge u G.L with y | y
    · exact .inl y
    · exact .inr ⟨Nat.lt_of_le_of_ne y (Ne.symm h2), fun hm => absurd h1 (Nat.not_lt_of_le (hfu u hm)), hc⟩
  have fzN : ∀ b, B b = none → fz B s.heap b = none := fun b e => by
    unfold fz
    rw [e]
  have notU : ∀ b u, fz B s.heap b = some u → b ∉ G.U := fun b u e hm => by
    rw [fzN b (uN b hm)] at e
    cases e
  have kp : ∀ b u, fz B s.heap b = some u → ∀ o, s.heap.get? b = some o → s2.heap.get? b = some o := fun b u e o q => z.keep b o (notU b u e) q
  refine ⟨fun b u e => ?_, fz_keep (fz_hok hs r.I.hok) kp, fun b o e => ?_, ?_, z.funs, fun b hb => ?_, z.bare, ?_, fun u hu => fzN u (uN u hu), z.uE, fun b hb => ?_, fun t ht => ?_, ?_⟩
  · obtain ⟨ob, v, eu, eo⟩ := fz_at hs r.I.hok e
    exact ⟨ob, v, eu, kp b u e ob eo⟩
  · obtain ⟨h1, h2⟩ := r.I.bs b o e
    refine ⟨z.keep b o (fun hm => by have := ok.uB b hm; rw [e] at this; cases this) h1, fzN b (r.c.free h2)⟩
  · obtain ⟨m, hm, _⟩ := r.I.loc
    obtain ⟨o, _, _, ho, _⟩ := hm
    have eL : (cutS s₀ G.L).heap.objs.size = G.L := cut_size (Nat.le_of_lt k.lt)
    have ho : s.heap.get? (cutS s₀ G.L).heap.objs.size = some o := ho
    rw [eL] at ho
    exact Heap.lt_size (z.keep _ _ (fun hm => (ok.uM _ hm).2 rfl) ho)
  · obtain ⟨_, o, ho, _⟩ := k.funs.mem hb
    exact fzN b (r.unk k ho (k.frf b hb) (.inl (ok.frl b hb)))
  · have eL : (cutS s₀ G.L).heap.objs.size = G.L := cut_size (Nat.le_of_lt k.lt)
    have h : H (cutS s₀ G.L).heap.objs.size = none := r.I.free
    rw [eL] at h
    exact fzN _ (r.c.free h)
  · obtain ⟨o, ho⟩ := k.hold b hb
    obtain ⟨o', ho'⟩ := r.I.base.there b o (k.cut (ok.hcL b hb) ho) (fun z => by cases z)
    by_cases hm : b ∈ G.U
    · obtain ⟨o2, e2, _⟩ := z.uE b hm
      exact ⟨o2, e2⟩
    · exact ⟨o', z.keep b o' hm ho'⟩
  · by_cases q : H₀ t = none
    · refine .inl ?_
      by_cases y : G.Hc t = none
      · exact y
      · exfalso
        obtain ⟨o, ho⟩ := k.hold t y
        exact ht (fzN t (r.unk k ho q (.inl (ok.hcL t y))))
    · obtain ⟨u, e⟩ := Option.ne_none_iff_exists'.mp q
      obtain ⟨ob, v, rfl, eo⟩ := k.hfz t u e
      have e2 : fz B s.heap t = H₀ t := by
        have e3 : H t = some (.frz ob v) := r.I.base.frzs t ob v e
        obtain ⟨x, ex⟩ := Option.ne_none_iff_exists'.mp (fz_some ht)
        have e4 := hs t x ex
        rw [e3] at e4
        cases e4
        obtain ⟨y, ey⟩ := Option.ne_none_iff_exists'.mp ht
        rcases fz_cases ey with ⟨o1, xs, rfl, eb⟩ | ⟨o1, xs, rfl, eb⟩ | ⟨o1, xs, rfl, eb, _⟩
        · rw [ex] at eb; cases eb; rw [ey, e]
        · rw [ex] at eb; cases eb; rw [ey, e]
        · rw [ex] at eb; cases eb
      rw [e2]
      exact k.dom t q
  · obtain ⟨o, e, hc⟩ := r.top ok k hfu
    by_cases hm : G.M - 1 ∈ G.U
    · exact z.uE _ hm
    · exact ⟨o, z.keep _ o hm e, hc⟩
/-- awake: a new stretch -/
theorem Rn.again {fp' : List Addr} (r : Rn G s₀ H₀ fp δ s σ H B) (ok : G.Ok) (k : Wk G s₀ H₀) (k2 : Wk G s2 (fz B s.heap)) (z : Slp G s s2) : Rn G s2 (fz B s.heap) fp' δ s2 σ (fz B s.heap) (fz B s.heap) := by
  have hs : Same B H := r.c.bh
  have eL : (cutS s₀ G.L).heap.objs.size = G.L := cut_size (Nat.le_of_lt k.lt)
  have hU : G.L ∉ G.U := fun hm => (ok.uM _ hm).2 rfl
  refine ⟨inv_wake ok.hk ok.nc ok.nn ⟨ok.hd, ok.frames, ok.mod, k2.bs, ok.bsz, k2.lt, k2.funs, ok.frl, k2.frf, k2.bare, k2.free, k2.hok⟩ ?_ (fun p hp => ?_) r.I.len, ⟨fun _ _ e => e, fun _ _ e => e, fun _ _ _ => rfl, fun _ _ e _ => e, fun b o e q => (by have e' : fz B s.heap b = some o := e; have q' : fz B s.heap b = none := q; rw [e'] at q'; cases q'), r.c.ln, fun i w' e => ?_, fun _ q => (by cases q), List.nodup_nil⟩⟩
  · obtain ⟨m, h1, h2⟩ := r.I.loc
    have h1 : s.heap.Ns (cutS s₀ G.L).heap.objs.size m := h1
    rw [eL] at h1
    refine ⟨m, ?_, fun i x v e1 e2 e3 => ?_⟩
    · obtain ⟨o, es, ep, ho, q⟩ := h1
      exact ⟨o, es, ep, z.keep _ o hU ho, q⟩
    · obtain ⟨u, ru, hl⟩ := h2 i x v e1 e2 (.inl e3)
      refine ⟨u, ru, ?_⟩
      rcases hl with ⟨_, hm⟩ | ⟨hc, _⟩
      · exact hm
      · have hc : G.scope.names.lookup x = some .cell ∨ G.scope.names.lookup x = some .free := hc
        rcases hc with hc | hc
        · exact absurd hc (ok.nn x).1
        · exact absurd hc (ok.nn x).2
  · obtain ⟨h1, h2, h3, h4, h5⟩ := mem_pinsAll.mp hp
    exact ⟨h1, h3, Nat.ne_of_gt h2, fun hm => absurd (ok.frl _ hm) (Nat.lt_asymm h2), h5⟩
  · have q := r.c.sl i w' e
    cases w' with
    | no => trivial
    | va u => exact q
    | da d =>
      obtain ⟨v, e1, e2⟩ := q
      exact ⟨v, e1, fz_dp hs r.I.hok e2⟩
end
end De
end
section
set_option Elab.async false
set_option linter.all false
set_option maxRecDepth 100000
set_option maxHeartbeats 2000000
/-! A generator that walks enumerate(a list) and hands out a tuple of texts at each turn. -/
namespace De
open PySem L2 PySem.Spec PyProof.Rows GenW
def GP.env (G : GP) : Env := envOfC G.qual G.scope G.L G.f G.cd
theorem GP.env_eq {G : GP} {s : Shared} {H : Hp} (k : Wk G s H) : (G.X s H).env = G.env := by
  show envOfC G.qual G.scope (cutS s G.L).heap.objs.size G.f G.cd = _
  rw [show (cutS s G.L).heap.objs.size = G.L from cut_size (Nat.le_of_lt k.lt)]
  rfl
theorem GP.A_eq {G : GP} {s : Shared} {H : Hp} (k : Wk G s H) : (G.X s H).A = G.A.deeper G.env := by
  show G.A.deeper (envOfC G.qual G.scope (cutS s G.L).heap.objs.size G.f G.cd) = _
  rw [show (cutS s G.L).heap.objs.size = G.L from cut_size (Nat.le_of_lt k.lt)]
  rfl
def tnE (a e it : Addr) (i : Nat) (h : Heap) : Prop := (∃ old, IsEnum h e it ((i : Nat) : Int) old) ∧ h.IsListIter it a i ∧ e ≠ it
theorem tnE_bare {a e it : Addr} {i : Nat} {h : Heap} (t : tnE a e it i h) : ∀ b ∈ [e, it], ∀ o, h.get? b = some o → ¬ Bare o := by
  obtain ⟨⟨old, he⟩, ⟨o', ho, hc, hd⟩, _⟩ := t
  intro b hb o e1 q
  have e' : b = e ∨ b = it := by simpa using hb
  rcases e' with z | z
  · rw [z] at e1
    have he : h.get? e = some _ := he
    rw [he] at e1
    cases e1
    have := q.2
    simp at this
  · rw [z] at e1
    rw [ho] at e1
    cases e1
    have := q.2
    rw [hc] at this
    simp at this
section
variable {X : Cx} {ta : TA} {e : Expr} {p pos : Pos} {pins : List (Addr × Obj)} {s : Shared} {σ : L2.St} {H : Hp}
/-- enumerate(list) made and asked for its iterator -/
theorem enum_run {Mm : Nat} {R : Addr → Hp → Prop} (hg : Gl X "enumerate") (hm : X.mg "enumerate" = none) (ha : PA X [e] ta) (hM : ∀ σ H s, Inv X pins σ H s → Mm ≤ s.heap.objs.size) (I : Inv X pins σ H s)
    (h : ta σ H fun vs H1 => ∃ a xs, vs = [.ref a] ∧ SqL X.K H1 a xs ∧ R a H1) (hs : starEach [e] X.env = [(false, eval e X.env)] := by rfl) :
    wpAny (model X.prog X.w) X.A (eval (.Call (.Name "enumerate" p) [e] [] pos) X.env) (fun v s1 => wpAny (model X.prog X.w) X.A (pyIter v) (fun u s2 =>
      ∃ en it a H', u = .ref en ∧ Inv X pins σ H' s2 ∧ tnE a en it 0 s2.heap ∧ (∀ b ∈ [en, it], FpOk X pins H' b ∧ Mm ≤ b) ∧ R a H') X.xe s1) X.xe s := by
  refine Call_ (ld_blt I hg hm boot_enumerate (PyProof.Rows.callWith_type1 (thn (ha.run pos pins s σ H _ I h) fun us s1 ⟨vs, H1, I1, r1, q1⟩ => ?_) hs rfl))
  obtain ⟨a, xs, ex, hq, q⟩ := q1
  subst ex
  cases r1 with
  | cons r rr =>
    cases rr
    cases r
    obtain ⟨its, rv, p', hz⟩ := I1.list hq
    refine call_enumerate_list p'.isList fun h' he hit hsz hk => wpAny_pyIter_enum he ?_
    have I2 : Inv X pins σ H1 { s1 with heap := h' } := I1.kept (t' := s1.toks) hk
    refine ⟨s1.heap.objs.size + 1, s1.heap.objs.size, a, H1, rfl, I2, ⟨⟨.none, he⟩, hit, Nat.succ_ne_self _⟩, fun b hb => ?_, q⟩
    have e' : b = s1.heap.objs.size + 1 ∨ b = s1.heap.objs.size := by simpa using hb
    have hle : s1.heap.objs.size ≤ b := by
      rcases e' with z | z
      · rw [z]; exact Nat.le_add_right _ _
      · rw [z]; exact Nat.le_refl _
    exact ⟨I1.fpOk hle (I1.hok.fresh hle), Nat.le_trans (hM _ _ _ I1) hle⟩
end
/-! ### the protocol -/
def TupH (h : Heap) (t : Addr) (ob : Obj) (ss : List Str) : Prop := h.get? t = some ob ∧ Bare ob ∧ (ss.map V.str).length ≤ sizeLine ∧ ∃ its : List Value, Vals (ss.map V.str) its ∧ IsTup h t its.toArray
def YT (G : GP) (st : Nat → List Str) (Nn : Nat) : Protocol := fun n s₀ v s1 kap =>
  ∃ j t ob, n + j = Nn ∧ v = .ref t ∧ TupH s1.heap t ob (st j) ∧ Mvd G.outer G.L G.M s₀ s1 ∧ t ≠ G.L ∧ (G.Hc t = none ∨ G.H0 t = some (.frz ob (.tup ((st j).map V.str)))) ∧ ∀ s2, Slp G s1 s2 → kap (.send .none) s2
def RT (G : GP) : GenEnd := fun n s₀ r s1 => ((r = .ok (.ret .none) ∨ r = .ok .next) ∧ (n = 0 ∧ Mvd G.outer G.L G.M s₀ s1)) ∨ ∃ e, r = .error e ∧ False
theorem dpAll_strs {K : PySem.W.Frag} {B : Hp} : ∀ {xs : List V} {ss : List Str}, DpAll K B xs (ss.map PyData.str) → xs = ss.map V.str
  | [], [], _ => rfl
  | _ :: _, _ :: _, .cons h a => by
    cases h
    rw [dpAll_strs a]
    rfl
  | [], _ :: _, h => by cases h
  | _ :: _, [], h => by cases h
section
variable {G : GP} {s₀ s s2 : Shared} {H₀ H B : Hp} {fp : List Addr} {δ : List Sl} {σ : L2.St}
/-- what it hands out -/
theorem Rn.yields {pins : List (Addr × Obj)} (r : Rn G s₀ H₀ fp δ s σ H B) (ok : G.Ok) (k : Wk G s₀ H₀) {v : V} {ss : List Str} (hv : Dp G.K B v (tS ss)) :
    ∃ t ob, v = .ref t ∧ TupH s.heap t ob ss ∧ t ≠ G.L ∧ (G.Hc t = none ∨ G.H0 t = some (.frz ob (.tup (ss.map V.str)))) := by
  cases hv with
  | @tup t xs _ q a =>
    obtain ⟨ob, e, hb⟩ := q
    have ex := dpAll_strs a
    subst ex
    obtain ⟨h1, h2, h3⟩ := r.I.hok t _ (r.c.bh t _ e)
    have eL : (cutS s₀ G.L).heap.objs.size = G.L := cut_size (Nat.le_of_lt k.lt)
    refine ⟨t, ob, rfl, ⟨h1, hb, h2, h3⟩, fun z => ?_, ?_⟩
    · have h : H (cutS s₀ G.L).heap.objs.size = none := r.I.free
      rw [eL, ← z, r.c.bh t _ e] at h
      cases h
    · by_cases y : G.Hc t = none
      · exact .inl y
      · right
        obtain ⟨o, ho⟩ := k.hold t y
        cases q : H₀ t with
        | none =>
          have := r.unk k ho q (.inl (ok.hcL t y))
          rw [e] at this
          cases this
        | some u =>
          obtain ⟨ob2, v2, rfl, _⟩ := k.hfz t u q
          have e3 := r.I.base.frzs t _ _ q
          rw [r.c.bh t _ e] at e3
          cases e3
          have := k.dom t (by rw [q]; simp)
          rcases this with z | z
          · exact absurd z y
          · rw [← z, q]
end
/-! ### the turns -/
theorem dpAll_len {K : PySem.W.Frag} {B : Hp} : ∀ {xs : List V} {ds : List PyData}, DpAll K B xs ds → xs.length = ds.length
  | [], [], _ => rfl
  | _ :: _, _ :: _, .cons _ a => congrArg Nat.succ (dpAll_len a)
  | [], _ :: _, h => by cases h
  | _ :: _, [], h => by cases h
theorem dpAll_get {K : PySem.W.Frag} {B : Hp} : ∀ {xs : List V} {ds : List PyData} {i : Nat} {x : V} {d : PyData}, DpAll K B xs ds → xs[i]? = some x → ds[i]? = some d → Dp K B x d
  | _ :: _, _ :: _, 0, _, _, .cons h _, e1, e2 => by cases e1; cases e2; exact h
  | _ :: _, _ :: _, i + 1, _, _, .cons _ a, e1, e2 => dpAll_get (i := i) a (by simpa using e1) (by simpa using e2)
theorem run_ps {X : Cx} {st : Stmt} {t : TS} {g : Gr} {δ δ2 : List Sl} {pins : List (Addr × Obj)} {s : Shared} {σ : L2.St} {H B : Hp} (h : PS X st t) (I : Inv X pins σ H s) (c : Cta X.K g δ [] σ H B)
    (hg : Go X.K g δ [] t { nx := fun δ' μ' => δ' = δ2 ∧ μ' = [], rt := fun _ _ => False }) (hx : ∀ e s', ¬ X.xe e s') :
    wpAny (model X.prog X.w) X.A (exec st X.env) (fun f s' => f = .next ∧ ∃ σ' H' B', Inv X pins σ' H' s' ∧ Cta X.K g δ2 [] σ' H' B' ∧ Same B B') (fun _ _ => False) s := by
  refine wpAny_mono (h.run pins s σ H { nx := fun σ' H' => ∃ B', Cta X.K g δ2 [] σ' H' B' ∧ Same B B', rt := fun _ _ => False, bk := fun _ _ => False, ct := fun _ _ => False } I (hg σ H B c _ ⟨fun δ' μ' σ' H' B' e c' sm => ?_, fun _ _ _ _ _ _ _ e _ _ _ => e.elim, fun _ _ _ _ _ e _ _ => e.elim, fun _ _ _ _ _ e _ _ => e.elim⟩)) (fun f s' q => ?_) (fun e s' q => hx e s' q)
  · obtain ⟨rfl, rfl⟩ := e
    exact ⟨B', c', sm⟩
  · cases f with
    | next => obtain ⟨σ', H', I', B', c', sm⟩ := q; exact ⟨rfl, σ', H', B', I', c', sm⟩
    | brk => obtain ⟨_, _, _, q⟩ := q; exact q.elim
    | cont => obtain ⟨_, _, _, q⟩ := q; exact q.elim
    | ret v => obtain ⟨_, _, _, _, _, q⟩ := q; exact q.elim
section
variable {G : GP} {st : Nat → List Str} {Lx : List Ins} {wP : Sl} {r : Nat} {elts : List Expr} {kk : Nat} {tpos yp ypos : Pos} {b1 b2 : Stmt} {ye : Expr} {t1 t2 : TS}
abbrev slT (S : List Str) (wP : Sl) (r : Nat) (x3 x4 : Sl) : List Sl := [.da (tS S), wP, dI (r : Nat), x3, x4]
theorem turns (ok : G.Ok) (hG : ∀ s H, PG (G.X s H) (.Tuple elts kk tpos) (gTup G.K 2 (gCons (gName 3) (gCons (gName 4) gNil)))) (h1 : ∀ s H, PS (G.X s H) b1 t1) (h2 : ∀ s H, PS (G.X s H) b2 t2) (hy : ∀ s H, PE (G.X s H) ye (tVar 0))
    (g1 : ∀ (g : Gr) i x, g.ms = [] → Lx[i]? = some x → Go G.K g (slT (st i) wP r (dI (i : Nat)) (.da (insD x))) [] t1 { nx := fun δ' μ' => δ' = slT (st i) wP r (dI (i : Nat)) (.da (insD x)) ∧ μ' = [], rt := fun _ _ => False })
    (g2 : ∀ (g : Gr) i x, g.ms = [] → Lx[i]? = some x → Go G.K g (slT (st i) wP r (dI (i : Nat)) (.da (insD x))) [] t2 { nx := fun δ' μ' => δ' = slT (st (i + 1)) wP r (dI (i : Nat)) (.da (insD x)) ∧ μ' = [], rt := fun _ _ => False })
    (hco : G.env.scope.isCoroutine = false) (hi : interactive G.env = false) {fs : List Frame} {c : Code} {Kf : Flow → Sem PySem.Fin} {J : Value → Sem PySem.Fin} {gd : Bool → Bool} {lv : List Value → List Value} (hA : G.A.over c fs = G.A.deeper G.env)
    (hsp : splitAtGen fs = none) (hgu : fs.any Frame.guarded = false) (hgd : gd false = false)
    (hend : ∀ s₀ s1, Mvd G.outer G.L G.M s₀ s1 → Seg (model G.P G.w) G.A (RT G) (YT G st Lx.length) 0 s₀ c (Kf .next) fs s1) {en it a : Addr} {p : Pos} :
    ∀ (m i : Nat) (s₀ s : Shared) (H₀ H B : Hp) (fp1 : List Addr) (x3 x4 : Sl) (σ : L2.St), i + m = Lx.length → Wk G s₀ H₀ → Rn G s₀ H₀ fp1 (slT (st i) wP r x3 x4) s σ H B → (∀ b ∈ fp1, G.M ≤ b ∧ ∀ o, s₀.heap.get? b = some o → ¬ Bare o) →
      tnE a en it i s.heap → (∀ b ∈ [en, it], FpOk (G.X s₀ H₀) (pinsAll G.L s₀ H₀ fp1) H b ∧ G.M ≤ b) → (∃ vs, SqL G.K B a vs ∧ DpAll G.K B vs (Lx.map insD)) →
      Seg (model G.P G.w) G.A (RT G) (YT G st Lx.length) m s₀ (.forLoop (.Tuple elts kk tpos) (.ref en) [b1, b2, .Expr (.Yield (some ye) yp) ypos] [] G.env) ((model G.P G.w).den (.forLoop (.Tuple elts kk tpos) (.ref en) [b1, b2, .Expr (.Yield (some ye) yp) ypos] [] G.env))
        (.ret (forK G.env Kf J gd lv) none (gd false) (lv []) c p [] :: fs) s := by
  have gl : G.A.over (.forLoop (.Tuple elts kk tpos) (.ref en) [b1, b2, .Expr (.Yield (some ye) yp) ypos] [] G.env) (.ret (forK G.env Kf J gd lv) none (gd false) (lv []) c p [] :: fs) = G.A.deeper G.env := (over_loop rfl rfl).trans hA
  intro m
  induction m with
  | zero =>
    intro i s₀ s H₀ H B fp1 x3 x4 σ hm k rn hf1 tn hfp hsq
    obtain ⟨vs, hs1, hs2⟩ := hsq
    refine seg_forTurn ?_
    rw [gl, ← GP.A_eq k]
    refine thn ((turn_enum (elts := elts) (kk := kk) (tpos := tpos) a en it).done (G.X s₀ H₀) rfl rfl rfl rfl i _ s σ H _ rn.I (fun b hb => (hfp b hb).1) tn ⟨vs, same_l rn.c.bh hs1, ?_⟩) fun r' s1 ⟨hr, I1⟩ => ?_
    · have := dpAll_len hs2
      rw [this, List.length_map]; omega
    · subst hr
      exact seg_blockNil (hend s₀ s1 (Rn.mvd ⟨I1, rn.c⟩ ok k hf1))
  | succ m ih =>
    intro i s₀ s H₀ H B fp1 x3 x4 σ hm k rn hf1 tn hfp hsq
    obtain ⟨vs, hs1, hs2⟩ := hsq
    have hlen : vs.length = Lx.length := by rw [dpAll_len hs2, List.length_map]
    have hil : i < Lx.length := by omega
    obtain ⟨x, hx⟩ : ∃ x, Lx[i]? = some x := ⟨_, List.getElem?_eq_getElem hil⟩
    refine seg_forTurn ?_
    rw [gl, ← GP.A_eq k]
    refine thn ((turn_enum (elts := elts) (kk := kk) (tpos := tpos) a en it).item (G.X s₀ H₀) rfl rfl rfl rfl i _ s σ H _ rn.I (fun b hb => (hfp b hb).1) tn ⟨vs, vs[i], same_l rn.c.bh hs1, List.getElem?_eq_getElem (by omega)⟩) fun r' s4 ⟨u, hr, h4⟩ => ?_
    subst hr
    refine thn h4 fun _ s5 ⟨v, H5, I5, r5, y5, st5, fr5⟩ => ?_
    have T := turn_enum (P := G.P) (w := G.w) (K := G.K) (elts := elts) (kk := kk) (tpos := tpos) a en it
    obtain ⟨Ta, x', rfl, hT, rfl, hxs⟩ := y5
    have hx' : vs[i]? = some x' := hxs vs (same_l rn.c.bh hs1)
    have dx : Dp G.K B x' (insD x) := dpAll_get hs2 hx' (by rw [List.getElem?_map, hx]; rfl)
    have stat : ∀ b ∈ [en, it], FpOk (G.X s₀ H₀) (pinsAll G.L s₀ H₀ fp1) (upd H Ta (.tup [.int (i : Nat), x'])) b := fun b hb => ⟨fr5 b hb, ((hfp b hb).1).2⟩
    have I5' := I5.pinned stat (T.obj _ _ st5)
    have qa := (hG s₀ H₀).run _ s5 σ _ (.ref Ta) u (fun σ2 H2 => ∃ B2, Cta G.K ⟨H₀, H₀, []⟩ (slT (st i) wP r (dI (i : Nat)) (.da (insD x))) [] σ2 H2 B2 ∧ Same B B2) I5' r5 (pair_run rn.c hT (.int _) dx fun σ2 B2 sm c2 => ⟨B2, c2, sm⟩)
    rw [GP.env_eq k] at qa
    refine thn qa fun _ s6 ⟨σ6, H6, I6, B6, c6, sm6⟩ => ?_
    intro J'
    have bk : ∀ {s7 : Shared} {σ7 : L2.St} {H7 : Hp}, Inv (G.X s₀ H₀) (pinsAll G.L s₀ H₀ fp1 ++ pinsAt [en, it] s5.heap) σ7 H7 s7 → (∀ b ∈ [en, it], ∃ o, s5.heap.get? b = some o ∧ s7.heap.get? b = some o ∧ H7 b = none) := fun {s7 σ7 H7} I7 b hb => by
      obtain ⟨o, e, d⟩ := T.obj _ _ st5 b hb
      obtain ⟨q1, q2, _⟩ := I7.pin (b, o) (List.mem_append_right _ (List.mem_append_right _ (mem_pinsAt hb e)))
      exact ⟨o, e, q1, q2⟩
    refine seg_execs_cons (seg_wrap ?_)
    rw [gl, ← GP.A_eq k]
    have qb := run_ps (h1 s₀ H₀) I6 c6 (g1 _ i x rfl hx) (fun _ _ z => z)
    rw [GP.env_eq k] at qb
    refine wpAny_mono qb (fun f7 s7 ⟨ef7, σ7, H7, B7, I7, c7, sm7⟩ => ?_) fun _ _ z => z.elim
    subst ef7
    refine seg_execs_cons (seg_wrap ?_)
    rw [gl, ← GP.A_eq k]
    have qc := run_ps (h2 s₀ H₀) I7 c7 (g2 _ i x rfl hx) (fun _ _ z => z)
    rw [GP.env_eq k] at qc
    refine wpAny_mono qc (fun f8 s8 ⟨ef8, σ8, H8, B8, I8, c8, sm8⟩ => ?_) fun _ _ z => z.elim
    subst ef8
    refine seg_execs_cons (seg_Expr_Yield ?_ rfl ?_ ?_ ?_ ?_)
    · show (splitAtGen fs).map _ = none
      rw [hsp]; rfl
    · show (gd false || fs.any Frame.guarded) = false
      rw [hgd, hgu]; rfl
    rotate_left
    · exact hco
    · exact hi
    rw [gl, ← GP.A_eq k]
    obtain ⟨v8, e8, d8⟩ := c8.sl 0 _ rfl
    have qd := (hy s₀ H₀).run _ s8 σ8 H8 (fun v' H' => v' = v8 ∧ H' = H8) I8 ⟨v8, e8, rfl, rfl⟩
    rw [GP.env_eq k] at qd
    refine wpAny_mono qd (fun u9 s9 ⟨v9, H9, I9, r9, ev9, eH9⟩ => ?_) fun _ _ z => z.elim
    subst ev9 eH9
    intro kap hk
    have rn9 : Rn G s₀ H₀ fp1 (slT (st (i + 1)) wP r (dI (i : Nat)) (.da (insD x))) s9 σ8 H9 B8 := ⟨I9.unpinned, c8⟩
    obtain ⟨t, ob, et, ht, htL, hct⟩ := rn9.yields (pins := []) ok k d8
    subst et
    cases r9
    refine ⟨i + 1, t, ob, by omega, rfl, ht, rn9.mvd ok k hf1, htL, hct, fun s2 z => hk .none s2 ?_⟩
    refine seg_execs_nil ?_
    have k2 := rn9.wake ok k (fun b hb => (hf1 b hb).1) z
    refine seg_again rfl (ih (i + 1) s2 s2 _ _ _ [en, it] _ _ σ8 (by omega) k2 (rn9.again (fp' := [en, it]) ok k k2 z) ?_ ?_ ?_ ?_)
    · intro b hb
      refine ⟨(hfp b hb).2, fun o e => ?_⟩
      obtain ⟨o', e1, e2, _⟩ := bk I9 b hb
      have hbU : b ∉ G.U := fun hm => absurd (ok.uM b hm).1 (Nat.not_lt_of_le (hfp b hb).2)
      have := z.keep b o' hbU e2
      rw [this] at e
      cases e
      exact tnE_bare st5 b hb o e1
    · refine T.keep _ _ _ st5 fun b hb o e => ?_
      obtain ⟨o', e1, e2, _⟩ := bk I9 b hb
      rw [e1] at e
      cases e
      exact z.keep b o (fun hm => absurd (ok.uM b hm).1 (Nat.not_lt_of_le (hfp b hb).2)) e2
    · intro b hb
      obtain ⟨o', e1, e2, e3⟩ := bk I9 b hb
      have hMb := (hfp b hb).2
      have hLb : G.L < b := Nat.lt_of_lt_of_le (Nat.lt_of_succ_lt ok.LM) hMb
      have eL : (cutS s2 G.L).heap.objs.size = G.L := cut_size (Nat.le_of_lt k2.lt)
      refine ⟨⟨?_, ?_, fun hm => absurd (ok.frl b hm) (Nat.lt_asymm hLb), .inr ?_, fun y cc hc => ?_, fun p hp => ?_⟩, hMb⟩
      · unfold fz
        rw [rn9.c.free e3]
      · show b ≠ (cutS s2 G.L).heap.objs.size
        rw [eL]; exact Nat.ne_of_gt hLb
      · show (cutS s2 G.L).heap.objs.size ≤ b
        rw [eL]; exact Nat.le_of_lt hLb
      · have hc' : (cellsFrom ((cutS s2 G.L).heap.objs.size + 1) G.scope.names []).lookup y = some cc := hc
        rw [ok.nc] at hc'
        cases hc'
      · have hp : p ∈ pinsAll G.L s2 (fz B8 s9.heap) [en, it] := (List.mem_append.mp hp).elim (fun z => (by cases (show p ∈ ([] : List (Addr × Obj)) from z))) id
        intro hpb
        exact (mem_pinsAll.mp hp).2.2.2.1 (hpb ▸ hb)
    · refine ⟨vs, ?_, fz_dpAll rn9.c.bh rn9.I.hok (dpAll_same (fun b o e => sm8 _ _ (sm7 _ _ (sm6 _ _ e))) hs2)⟩
      rcases same_l (K := G.K) (fun b o e => sm8 _ _ (sm7 _ _ (sm6 _ _ e))) hs1 with q | q
      · exact .inl (fz_rdl rn9.c.bh rn9.I.hok q)
      · exact .inr q
end
end De
end
section
set_option Elab.async false
set_option linter.all false
set_option maxRecDepth 100000
set_option maxHeartbeats 2000000
/-! The whole generator: first a tuple of texts, then one at each turn. -/
namespace De
open PySem L2 PySem.Spec PyProof.Rows GenW
section
variable {G : GP} {st : Nat → List Str} {Lx : List Ins} {wP : Sl} {r : Nat} {elts : List Expr} {kk : Nat} {tpos yp ypos yp0 ypos0 fpos cp cpos : Pos} {b1 b2 : Stmt} {ye ye0 je : Expr} {t1 t2 : TS} {tj : TA}
theorem gen_seg (ok : G.Ok) (hG : ∀ s H, PG (G.X s H) (.Tuple elts kk tpos) (gTup G.K 2 (gCons (gName 3) (gCons (gName 4) gNil)))) (h1 : ∀ s H, PS (G.X s H) b1 t1) (h2 : ∀ s H, PS (G.X s H) b2 t2) (hy : ∀ s H, PE (G.X s H) ye (tVar 0)) (hy0 : ∀ s H, PE (G.X s H) ye0 (tVar 0))
    (hj : ∀ s H, PA (G.X s H) [je] tj)
    (g1 : ∀ (g : Gr) i x, g.ms = [] → Lx[i]? = some x → Go G.K g (slT (st i) wP r (dI (i : Nat)) (.da (insD x))) [] t1 { nx := fun δ' μ' => δ' = slT (st i) wP r (dI (i : Nat)) (.da (insD x)) ∧ μ' = [], rt := fun _ _ => False })
    (g2 : ∀ (g : Gr) i x, g.ms = [] → Lx[i]? = some x → Go G.K g (slT (st i) wP r (dI (i : Nat)) (.da (insD x))) [] t2 { nx := fun δ' μ' => δ' = slT (st (i + 1)) wP r (dI (i : Nat)) (.da (insD x)) ∧ μ' = [], rt := fun _ _ => False })
    (gj : ∀ (g : Gr), g.ms = [] → EvA G.K g (slT (st 0) wP r .no .no) [] tj fun ws μ => ws = [dL (Lx.map insD)] ∧ μ = [])
    (hco : G.env.scope.isCoroutine = false) (hi : interactive G.env = false) (hgl : ∀ s H, Gl (G.X s H) "enumerate") (hmg : G.mg "enumerate" = none)
    (hse : starEach [je] G.env = [(false, eval je G.env)]) (hfold : ∀ x, foldedSetIterable (.Call (.Name "enumerate" cp) [je] [] cpos) G.env x = pure x)
    {s₀ : Shared} {H₀ : Hp} {σ : L2.St} (k : Wk G s₀ H₀) (rn : Rn G s₀ H₀ [] (slT (st 0) wP r .no .no) s₀ σ H₀ H₀) :
    Seg (model G.P G.w) G.A (RT G) (YT G st Lx.length) (Lx.length + 1) s₀
      (.func [.Expr (.Yield (some ye0) yp0) ypos0, .For (.Tuple elts kk tpos) (.Call (.Name "enumerate" cp) [je] [] cpos) [b1, b2, .Expr (.Yield (some ye) yp) ypos] [] fpos] G.env)
      ((model G.P G.w).den (.func [.Expr (.Yield (some ye0) yp0) ypos0, .For (.Tuple elts kk tpos) (.Call (.Name "enumerate" cp) [je] [] cpos) [b1, b2, .Expr (.Yield (some ye) yp) ypos] [] fpos] G.env)) [] s₀ := by
  refine seg_func ?_
  refine seg_execs_cons (seg_Expr_Yield rfl rfl rfl ?_ hco hi)
  rw [over_func, ← GP.A_eq k]
  obtain ⟨v8, e8, d8⟩ := rn.c.sl 0 _ rfl
  have qd := (hy0 s₀ H₀).run _ s₀ σ H₀ (fun v' H' => v' = v8 ∧ H' = H₀) rn.I ⟨v8, e8, rfl, rfl⟩
  rw [GP.env_eq k] at qd
  refine wpAny_mono qd (fun u9 s9 ⟨v9, H9, I9, r9, ev9, eH9⟩ => ?_) fun _ _ z => z.elim
  subst ev9 eH9
  intro kap hk
  have rn9 : Rn G s₀ H9 [] (slT (st 0) wP r .no .no) s9 σ H9 H9 := ⟨I9, rn.c⟩
  have nf : ∀ b ∈ ([] : List Addr), G.M ≤ b ∧ ∀ o, s₀.heap.get? b = some o → ¬ Bare o := fun b hb => by cases hb
  obtain ⟨t, ob, et, ht, htL, hct⟩ := rn9.yields (pins := []) ok k d8
  subst et
  cases r9
  refine ⟨0, t, ob, Nat.add_zero _, rfl, ht, rn9.mvd ok k nf, htL, hct, fun s2 z => hk .none s2 ?_⟩
  have k2 := rn9.wake ok k (fun b hb => (by cases hb)) z
  have rn2 := rn9.again (fp' := []) ok k k2 z
  refine seg_execs_cons (segw_for hfold ?_)
  rw [over_func, ← GP.A_eq k2]
  have ge : (G.X s2 (fz H9 s9.heap)).env = G.env := GP.env_eq k2
  have hM : ∀ σ H s, Inv (G.X s2 (fz H9 s9.heap)) (pinsAll G.L s2 (fz H9 s9.heap) []) σ H s → G.M ≤ s.heap.objs.size := fun σ' H' s' I' => by
    have lm := ok.LM
    obtain ⟨o, e, hc⟩ := k2.mx
    have : G.M - 1 < s'.heap.objs.size := by
      cases q : fz H9 s9.heap (G.M - 1) with
      | some u =>
        obtain ⟨ob, v, rfl, eo⟩ := k2.hfz _ u q
        exact Heap.lt_size (I'.hok _ _ (I'.base.frzs _ _ _ q)).1
      | none => exact Heap.lt_size (I'.pin (G.M - 1, o) (List.mem_append_right _ (mem_pinsAll.mpr ⟨e, Nat.lt_sub_of_add_lt lm, q, fun hm => (by cases hm), hc⟩))).1
    exact Nat.le_of_pred_lt this
  have qe := enum_run (X := G.X s2 (fz H9 s9.heap)) (p := cp) (pos := cpos) (pins := pinsAll G.L s2 (fz H9 s9.heap) []) (R := fun a H' => ∃ B', Cta G.K ⟨fz H9 s9.heap, fz H9 s9.heap, []⟩ (slT (st 0) wP r .no .no) [] σ H' B' ∧ ∃ vs, SqL G.K B' a vs ∧ DpAll G.K B' vs (Lx.map insD)) (hgl _ _) hmg (hj _ _) hM rn2.I
    (gj _ rfl σ _ _ rn2.c _ fun ws μ' vs H' B' hw c' sm r' => by
      obtain ⟨rfl, rfl⟩ := hw
      cases r' with
      | cons ra rb =>
        cases rb
        cases ra with
        | @lst a xs _ hq hd => exact ⟨a, xs, rfl, same_l c'.bh hq, B', c', xs, hq, hd⟩) (by rw [ge]; exact hse)
  rw [ge] at qe
  refine wpAny_mono qe (fun v s3 h3 => wpAny_mono h3 (fun u s4 ⟨en, it, a, H4, eu, I4, tn, hfp, B4, c4, vs, hq, hd⟩ => ?_) fun _ _ z => z.elim) fun _ _ z => z.elim
  subst eu
  intro p
  refine turns (G := G) ok hG h1 h2 hy g1 g2 hco hi over_func rfl rfl rfl (fun s₁ s5 mv => ?_) (p := p) Lx.length 0 s2 s4 _ H4 B4 [] _ _ σ (Nat.zero_add _) k2 ⟨I4, c4⟩ (fun b hb => (by cases hb)) tn hfp ⟨vs, hq, hd⟩
  refine seg_execs_nil ?_
  exact seg_end (.ok (.ret .none)) (.inl ⟨.inl rfl, rfl, mv⟩)
end
end De
end
section
set_option Elab.async false
set_option linter.all false
set_option maxRecDepth 100000
set_option maxHeartbeats 2000000
/-! A generator def called: its object, its frame; the first waking. -/
namespace De
open PySem L2 PySem.Spec PyProof.Rows GenW
/-! ### a call with a star and keywords -/
section
variable {M : Model} {A : Around} {E : Value → Shared → Prop} {s : Shared}
theorem ks_callK {f : Value} {first : List Value} {pos : Pos} {Q : Value → Shared → Prop} {P : Heap → Prop} {args : List (Bool × Sem Value)} {kws : List (Option Str × Sem Value)} (hst : args.any (·.1) = true)
    (hk : ∀ h, P h → ∃ k, (k = Keeper.frame ∨ k = Keeper.machine ∨ k = Keeper.boundFrame) ∧ PySem.W.Looks M h (keeperOf f) k)
    (h : wpAny M A (evalArgs f true args kws) (fun a s₁ => P s₁.heap ∧ wpAny M A (call f (first ++ a.pos) a.kw) Q E s₁) E s) : wpAny M A (callWith pos f first args kws) Q E s := by
  unfold callWith
  refine wpAny_bind (wpAny_holding (wpAny_mono h (fun a s₁ h₁ => wpAny_bind (wpAny_standAt ?_)) fun _ _ x => x))
  obtain ⟨k, hk', L⟩ := hk _ h₁.1
  simp only [hst, Bool.true_or]
  refine wpAny_bind (L.here ?_)
  have tail : ∀ {t : Sem Value}, wpAny M A t Q E s₁ → wpAny M A (t >>= fun r => holding [r] point >>= fun _ => pure r) Q E s₁ :=
    fun ht => wpAny_bind (wpAny_mono ht (fun r s₂ hr => wpAny_bind (wpAny_holding (wpAny_point (wpAny_pure hr)))) fun _ _ x => x)
  have marked (mk : Value) : wpAny M A (callMarked mk f (first ++ a.pos) a.kw) Q E s₁ := by unfold callMarked; exact Calls.wpAny_keep h₁.2
  rcases hk' with rfl | rfl | rfl <;> dsimp only <;> first | exact tail (marked _) | exact tail (wpAny_operating h₁.2)
end
/-! ### the call of a generator def with a star parameter -/
structure Gmd (qual : Str) (scope : Scope) (f : Addr) (cd : Value) (body : List Stmt) (ps : List Str) (us : Value → List Value) (rest : List Value) (sc s' : Shared) (a g : Nat) : Prop where
  ext : ∀ b o, sc.heap.get? b = some o → s'.heap.get? b = some o
  os : s'.os = sc.os
  bare : AllBare s'.gens
  lim : s'.heap.NoLimit
  gen : s'.heap.IsGen a g
  fresh : s'.gens[g]? = some (.fresh (.func body (envOfC qual scope (sc.heap.objs.size + 1) f cd)))
  la : sc.heap.objs.size + 1 < a
  tup : s'.heap.get? sc.heap.objs.size = some { cls := .type "tuple", data := .seq rest.toArray }
  sz : s'.heap.objs.size = a + 1
  ns : s'.heap.Ns (sc.heap.objs.size + 1) (bindL (envOfC qual scope (sc.heap.objs.size + 1) f cd).kindOf (ps.zip (us (.ref sc.heap.objs.size))) fun _ => none)
  go : ∃ o, s'.heap.get? a = some o ∧ ∀ v, o.data ≠ .cell v
theorem made {X : Cx} {pins : List (Addr × Obj)} {σ : L2.St} {H : Hp} {sc : Shared} {A : Around} {f : Addr} {name qual : Str} {params : Arguments} {body : List Stmt} {scope : Scope} {dV kV doc pm cdv ct oc : Value} {an od : Option Addr} {osl : Array (Option Value)} {ps : List Str} {us : Value → List Value} {args : Args} {rest : List Value} {Q : Value → Shared → Prop} {E : Value → Shared → Prop}
    (I : Inv X pins σ H sc) (lk : X.K.lookup f = some ⟨oc, od, .func (PySem.W.fnOf name qual params body scope dV kV doc pm an cdv ct), osl⟩) (hcd : PySem.W.codeIn X.K cdv qual = true) (hr : A.depth < recursionLimit) (hk : scope.kind = .function) (hco : scope.isCoroutine = false) (hgen : scope.isGenerator = true)
    (hpar : ∀ x ∈ ps, scope.names.lookup x = some .local) (hb : bindArgs (PySem.W.fnOf name qual params body scope dV kV doc pm an cdv ct) args = (newTuple rest >>= fun t => pure (ps.zip (us t)))) (hz : rest.length ≤ sizeLine)
    (hQ : ∀ s' a g, Gmd qual scope f cdv body ps us rest sc s' a g → Q (.ref a) s') : codeAny (model X.prog X.w) A (.call (.ref f) args) (fun r s' => match r with | .ok (.ret v) => Q v s' | .ok _ => False | .error e => E e s') sc := by
  have KX : X.K.In sc.heap := I.kIn
  refine codeAny_call_generator hr (KX _ _ lk) rfl hco hgen rfl (PySem.W.codeRec_of KX hcd) ?_
  rw [hb]
  refine wpAny_bind (wpAny_newTuple (wpAny_pure ?_) hz)
  have hsz : (sc.heap.push { cls := .type "tuple", data := .seq rest.toArray }).objs.size = sc.heap.objs.size + 1 := Heap.size_push _ _
  refine wpAny_newFunctionEnv_cells hk (fun y hy => .inl (hpar y.1 (List.of_mem_zip hy).1)) fun env he s1 x => ?_
  subst he
  have k1 : ∀ b o, sc.heap.get? b = some o → s1.heap.get? b = some o := fun b o e => x.toInCall.keep b o (Heap.get?_push_of_some _ e)
  have lim1 : s1.heap.NoLimit := I.nolimit.keeps k1
  refine ⟨lim1, ?_⟩
  obtain ⟨h1, tk, es1, hk1⟩ := x.done
  have os1 : s1.os = sc.os := by rw [es1]
  have gen1 : s1.gens = sc.gens := by rw [es1]
  have hns := x.toInCall.ns
  have lt1 := hns.lt
  refine hQ _ _ s1.gens.size ⟨fun b o e => Heap.get?_push_of_some _ (k1 b o e), os1, ?_, lim1.keeps fun b o e => Heap.get?_push_of_some _ e, ⟨_, _, _, Heap.get?_push_size _ rfl, rfl, rfl, rfl⟩, ?_, ?_, ?_, Heap.size_push _ _, ?_, ⟨_, Heap.get?_push_size _ rfl, fun v q => by cases q⟩⟩
  · exact AllBare.push (by rw [gen1]; exact I.bare) rfl
  · rw [← hsz]
    exact Array.getElem?_push_size ..
  · rw [← hsz]
    exact lt1
  · exact Heap.get?_push_of_some _ (x.toInCall.keep _ _ (Heap.get?_push_size _ rfl))
  · rw [← hsz]
    obtain ⟨o, es, ep, ho, q⟩ := hns
    exact ⟨o, es, ep, Heap.get?_push_of_some _ ho, q⟩
/-! ### the first waking -/
def mkG (X : Cx) (N : List Str) (qual : Str) (scope : Scope) (f : Addr) (cd : Value) (A : Around) (M : Addr) (U : List Addr) (sc : Shared) (H₀ : Hp) : GP :=
  { P := X.prog, w := X.w, K := X.K, mg := X.mg, base := X.base, N := N, qual := qual, scope := scope, f := f, cd := cd, A := A, outer := X.stack, L := sc.heap.objs.size + 1, M := M, U := U, Hc := fun b => (sc.heap.get? b).map fun _ => .own 0, H0 := H₀ }
/-- what it knows at its beginning -/
def h0 (B : Hp) (sc s' : Shared) (rest : List Value) (xs : List V) : Hp := fz (upd B sc.heap.objs.size (.frz { cls := .type "tuple", data := .seq rest.toArray } (.tup xs))) s'.heap
section
variable {X : Cx} {pins : List (Addr × Obj)} {σ : L2.St} {H B : Hp} {sc s' : Shared} {A : Around} {f : Addr} {qual : Str} {cd : Value} {body : List Stmt} {scope : Scope} {N ps : List Str} {us : Value → List Value} {rest : List Value} {xs : List V} {a g M : Nat} {U : List Addr}
theorem inv_frl (I : Inv X pins σ H sc) {b : Addr} (hb : b ∈ frs X.stack) : b < sc.heap.objs.size := by
  obtain ⟨_, o, ho, _⟩ := I.env0.funs.mem hb
  exact Heap.lt_size ho
theorem mkG_ok {H₀ : Hp} (I : Inv X pins σ H sc) (hk : scope.kind = .function) (nc : ∀ n, cellsFrom n scope.names [] = []) (nn : ∀ x, scope.names.lookup x ≠ some .cell ∧ scope.names.lookup x ≠ some .free) (hd : A.handled = none) (hfr : A.frames = some X.stack)
    (hM : sc.heap.objs.size + 2 < M) (hU : ∀ u ∈ U, u < M ∧ u ≠ sc.heap.objs.size + 1 ∧ X.base.get? u = none) : (mkG X N qual scope f cd A M U sc H₀).Ok where
  hk := hk
  nc := nc
  nn := nn
  mod := I.ok.mod
  hd := hd
  frames := hfr
  bsz := Nat.le_trans I.env0.bsz (Nat.le_succ _)
  LM := hM
  hcL := fun b hb => by
    cases e : sc.heap.get? b with
    | none => exact absurd (show (sc.heap.get? b).map _ = none by rw [e]; rfl) hb
    | some o => exact Nat.lt_succ_of_lt (Heap.lt_size e)
  uM := fun u hu => ⟨(hU u hu).1, (hU u hu).2.1⟩
  uB := fun u hu => (hU u hu).2.2
  frl := fun b hb => Nat.lt_succ_of_lt (inv_frl I hb)
theorem first_wake {s2 : Shared} (I : Inv X pins σ H sc) (bh : Same B H) (m : Gmd qual scope f cd body ps us rest sc s' a g) (hx : Vals xs rest) (hxz : xs.length ≤ sizeLine) (hU : ∀ u ∈ U, H u = none ∧ u ≠ sc.heap.objs.size ∧ X.base.get? u = none ∧ u ≠ sc.heap.objs.size + 1)
    (hmx : ∃ o, s2.heap.get? (M - 1) = some o ∧ ∀ v, o.data ≠ .cell v) (hb : AllBare s2.gens) (kp : ∀ b o, b ∉ U → s'.heap.get? b = some o → s2.heap.get? b = some o) (hfu : s2.heap.FunFrames X.base X.stack) (hue : ∀ u ∈ U, ∃ o, s2.heap.get? u = some o ∧ ∀ v, o.data ≠ .cell v) :
    Wk (mkG X N qual scope f cd A M U sc (h0 B sc s' rest xs)) s2 (h0 B sc s' rest xs) ∧ (∀ v d, Dp X.K B v d → Dp X.K (h0 B sc s' rest xs) v d) ∧
      h0 B sc s' rest xs sc.heap.objs.size = some (.frz { cls := .type "tuple", data := .seq rest.toArray } (.tup xs)) := by
  have hn : H sc.heap.objs.size = none := I.hok.fresh (Nat.le_refl _)
  have hsame : Same (upd B sc.heap.objs.size (.frz { cls := .type "tuple", data := .seq rest.toArray } (.tup xs))) (upd H sc.heap.objs.size (.frz { cls := .type "tuple", data := .seq rest.toArray } (.tup xs))) := fun b o e => by
    by_cases hb : b = sc.heap.objs.size
    · subst hb; rw [upd_same] at e ⊢; exact e
    · rw [upd_ne hb] at e ⊢; exact bh b o e
  have bn : B sc.heap.objs.size = none := by
    cases q : B sc.heap.objs.size with
    | none => rfl
    | some o => rw [bh _ o q] at hn; cases hn
  have hok : HOk X.prog X.w (upd H sc.heap.objs.size (.frz { cls := .type "tuple", data := .seq rest.toArray } (.tup xs))) s'.heap :=
    I.hok.laid m.ext (Nat.le_refl _) ⟨m.tup, hxz, rest, hx, ⟨_, m.tup, rfl, _, rfl⟩⟩
  have dn : ∀ b, H b = none → b ≠ sc.heap.objs.size → h0 B sc s' rest xs b = none := fun b e hne => by
    have e2 : B b = none := by
      cases q : B b with
      | none => rfl
      | some o => rw [bh _ o q] at e; cases e
    unfold h0 fz
    rw [upd_ne hne, e2]
  have notU : ∀ b u, h0 B sc s' rest xs b = some u → b ∉ U := fun b u e hm => by
    rw [dn b (hU b hm).1 (hU b hm).2.1] at e
    cases e
  have kp2 : ∀ b u, h0 B sc s' rest xs b = some u → ∀ o, s'.heap.get? b = some o → s2.heap.get? b = some o := fun b u e o q => kp b o (notU b u e) q
  refine ⟨⟨fun b u e => ?_, fz_keep (fz_hok hsame hok) kp2, fun b o e => ?_, ?_, hfu, fun b hb => ?_, hb, ?_, fun u hu => dn u (hU u hu).1 (hU u hu).2.1, hue, fun b hb => ?_, fun t _ => .inr rfl, hmx⟩, fun v d h => fz_dp hsame hok (dp_same (same_new bn) h), ?_⟩
  · obtain ⟨ob, v, eu, eo⟩ := fz_at hsame hok e
    exact ⟨ob, v, eu, kp2 b u e ob eo⟩
  · obtain ⟨q1, q2⟩ := I.bs b o e
    exact ⟨kp b o (fun hm => by have := (hU b hm).2.2.1; have e' : X.base.get? b = some o := e; rw [e'] at this; cases this) (m.ext b o q1), dn b q2 (Nat.ne_of_lt (Heap.lt_size q1))⟩
  · obtain ⟨o, _, _, ho, _⟩ := m.ns
    exact Heap.lt_size (kp _ _ (fun hm => (hU _ hm).2.2.2 rfl) ho)
  · exact dn b (I.stkFree b hb) (Nat.ne_of_lt (inv_frl I hb))
  · exact dn _ (I.hok.fresh (Nat.le_succ _)) (Nat.succ_ne_self _)
  · cases e : sc.heap.get? b with
    | none => exact absurd (show (sc.heap.get? b).map _ = none by rw [e]; rfl) hb
    | some o =>
      by_cases hm : b ∈ U
      · obtain ⟨o2, e2, _⟩ := hue b hm
        exact ⟨o2, e2⟩
      · exact ⟨o, kp b o hm (m.ext b o e)⟩
  · exact fz_tup hsame hok (upd_same)
end
end De
end
section
set_option Elab.async false
set_option linter.all false
set_option maxRecDepth 100000
set_option maxHeartbeats 2000000
/-! The caller of a generator: what a turn leaves of its own. -/
namespace De
open PySem L2 PySem.Spec PyProof.Rows GenW
section
variable {X : Cx} {pins : List (Addr × Obj)} {σ : L2.St} {H : Hp} {s s1 : Shared} {L M : Addr}
/-- behind a turn -/
theorem inv_mvd (I : Inv X pins σ H s) (mv : Mvd X.stack L M s s1) (hL : X.s_0.heap.objs.size ≤ L) (hl : X.env.locals < L) (hc : ∀ x c, X.env.cells.lookup x = some c → c < L) (hp : ∀ p ∈ X.pn ++ pins, p.1 ≠ L ∧ p.1 < M) (hH : ∀ b, H b ≠ none → b < L) (hf : ∀ b ∈ frs X.stack, b < L) (LM : L < M) : Inv X pins σ H s1 := by
  have keep : ∀ b o, s.heap.get? b = some o → b < L → b ∉ frs X.stack → s1.heap.get? b = some o := fun b o e h1 h2 => mv.keep b o e (Nat.ne_of_lt h1) (.inl (Nat.lt_trans h1 LM)) (fun z => absurd z (Nat.lt_asymm h1)) h2
  have keepP : ∀ p ∈ X.pn ++ pins, s1.heap.get? p.1 = some p.2 := fun p hp' => by
    obtain ⟨e, n, ne, nf, d⟩ := I.pin p hp'
    refine mv.keep p.1 p.2 e (hp p hp').1 (.inl (hp p hp').2) (fun _ => d) fun hm => ?_
    rcases List.mem_cons.mp (I.stkSub p.1 hm) with z | z
    · exact ne z
    · exact nf z
  have sl : ∀ b o, s.heap.get? b = some o → b < L → ∃ sl, s1.heap.get? b = some { o with slots := sl } := fun b o e h1 => by
    by_cases h2 : b ∈ frs X.stack
    · exact mv.slot b o e h2
    · exact ⟨o.slots, keep b o e h1 h2⟩
  let ch : List Addr := (List.range s.heap.objs.size).filter fun b => decide (L ≤ b) && decide (b ∉ (X.pn ++ pins).map (·.1))
  have mch : ∀ b, b ∈ ch ↔ b < s.heap.objs.size ∧ L ≤ b ∧ b ∉ (X.pn ++ pins).map (·.1) := fun b => by
    show b ∈ List.filter _ _ ↔ _
    rw [List.mem_filter, List.mem_range, Bool.and_eq_true, decide_eq_true_iff, decide_eq_true_iff]
  have old : ∀ b o, s.heap.get? b = some o → b ∉ ch → b < L ∨ ∃ p ∈ X.pn ++ pins, p.1 = b := fun b o e hb => by
    rcases Nat.lt_or_ge b L with z | z
    · exact .inl z
    · right
      by_cases q : b ∈ (X.pn ++ pins).map (·.1)
      · obtain ⟨p, h1, h2⟩ := List.mem_map.mp q
        exact ⟨p, h1, h2⟩
      · exact absurd ((mch b).mpr ⟨Heap.lt_size e, z, q⟩) hb
  have keep2 : ∀ b o, s.heap.get? b = some o → b ∉ ch → b ∉ frs X.stack → s1.heap.get? b = some o := fun b o e hb hfr => by
    rcases old b o e hb with z | ⟨p, h1, rfl⟩
    · exact keep b o e z hfr
    · have := keepP p h1
      have e2 := (I.pin p h1).1
      rw [e] at e2
      cases e2
      exact this
  have hok : HOk X.prog X.w H s1.heap := fun b u e => by
    refine (I.hok b u e).stay (fun c v hc' q => ?_) (fun _ q => q) fun _ _ q => q
    have hc2 : H c ≠ none := by
      rcases hc' with rfl | hc'
      · rw [e]; simp
      · rw [hc']; simp
    refine keep c v q (hH c hc2) fun hm => ?_
    exact hc2 (I.stkFree c hm)
  refine I.call' (ch := ch) mv.os ⟨fun b o e _ h1 h2 => keep2 b o e h2 h1, fun b o e _ h1 _ => mv.slot b o e h1, fun b o _ n _ => n, fun b o e h2 => ?_, fun _ _ e => e, fun _ _ _ e => e, fun b ps e => ⟨#[], by rw [e]; simp⟩⟩ hok mv.bare fun b hb => ?_
  · by_cases h1 : b ∈ frs X.stack
    · obtain ⟨q, e2⟩ := mv.slot b o e h1
      exact ⟨_, e2⟩
    · exact ⟨o, keep2 b o e h2 h1⟩
  · obtain ⟨h1, h2, h3⟩ := (mch b).mp hb
    refine ⟨.inr (Nat.le_trans hL h2), Nat.ne_of_gt (Nat.lt_of_lt_of_le hl h2), fun x c e => Nat.ne_of_lt (Nat.lt_of_lt_of_le (hc x c e) h2), fun p hp' z => h3 (List.mem_map.mpr ⟨p, hp', z⟩)⟩
/-- a local is stored; nothing else happens -/
theorem store_loc {M : Model} {A : Around} {E : Value → Shared → Prop} {i : Nat} {x : Str} {v : V} {u : Value} {Q : Unit → Shared → Prop} (I : Inv X pins σ H s) (hN : X.N.Nodup) (hi : X.N[i]? = some x) (hk : X.env.scope.names.lookup x = some .local) (r : RelV v u)
    (h : ∀ h' tk, Heap.SameBut X.env.locals s.heap h' → Inv X pins (σ.set i (some v)) H { s with heap := h', toks := tk } → Q () { s with heap := h', toks := tk }) : wpAny M A (storeName X.env x u) Q E s := by
  obtain ⟨m, hn, hl⟩ := id I.loc
  have hcls : (X.env.scope.kind == .class || (X.env.scope.kind == .module && X.env.locals != X.env.globals)) = false := by rw [I.ok.kind]; rfl
  have hiσ : i < σ.length := by rw [I.len]; exact (List.getElem?_eq_some_iff.mp hi).1
  have cne := I.cne
  refine wpAny_storeName_local hk hn (fun h' hn' hs => h h' _ hs ?_) hcls
  have far : ∀ b o, X.s_0.heap.get? b = some o → b ≠ X.env.locals := fun b o e => Nat.ne_of_lt (Nat.lt_of_lt_of_le (Heap.lt_size e) I.ok.above)
  refine ⟨I.ok, I.os, I.bare, ⟨fun b o e n hb hx => (hs.2 b (far b o e)).trans (I.base.keep b o e n hb hx), fun b o e n hb hx => ?_, I.base.free, fun b o e hx => ?_, I.base.tups, I.base.frzs, I.base.tbls⟩, ⟨_, hn', fun j y v' e1 e2 e3 => ?_⟩, fun y c e => ?_, I.free, I.freeC, fun p hp => ?_, fun b ob e => ?_, by simpa using I.len⟩
  · obtain ⟨sl, e1⟩ := I.base.slot b o e n hb hx
    exact ⟨sl, (hs.2 b (far b o e)).trans e1⟩
  · obtain ⟨o', e1⟩ := I.base.there b o e hx
    exact ⟨o', (hs.2 b (far b o e)).trans e1⟩
  · by_cases hj : j = i
    · subst hj
      rw [hi] at e1; cases e1
      rw [List.getElem?_set_self hiσ] at e2
      cases e2
      exact ⟨u, r, .inl ⟨hk, by simp⟩⟩
    · rw [List.getElem?_set_ne (Ne.symm hj)] at e2
      obtain ⟨u', r', q⟩ := hl j y v' e1 e2 e3
      refine ⟨u', r', ?_⟩
      rcases q with ⟨k, e⟩ | ⟨k, c, e, z⟩
      · refine .inl ⟨k, ?_⟩
        have : y ≠ x := fun e => hj (nodup_ix hN e1 (e ▸ hi))
        simp [this, e]
      · exact .inr ⟨k, c, e, z.sameBut hs (cne y c e)⟩
  · obtain ⟨w', z⟩ := I.cell y c e
    exact ⟨w', z.sameBut hs (cne y c e)⟩
  · obtain ⟨e, n, ne, nf, d⟩ := I.pin p hp
    exact ⟨(hs.2 p.1 ne).trans e, n, ne, nf, d⟩
  · refine (I.hok b ob e).stay (fun c w' hc q => (hs.2 c fun z => ?_).trans q) (fun _ q => q) fun _ _ q => q
    have hfree := I.free
    rcases hc with rfl | hc
    · rw [z, hfree] at e; cases e
    · rw [z, hfree] at hc; cases hc
/-- a tuple of texts that stands untracked comes to be tracked -/
theorem inv_track {t : Addr} {ob : Obj} {xs : List V} (I : Inv X pins σ H s) (ht : s.heap.get? t = some ob) (hz : xs.length ≤ sizeLine) (its : List Value) (hv : Vals xs its) (hi : IsTup s.heap t its.toArray) (hn : H t = none) (h0 : X.s_0.heap.get? t = none) (hl : t ≠ X.env.locals) (hc : ∀ x c, X.env.cells.lookup x = some c → c ≠ t) (hp : ∀ p ∈ X.pn ++ pins, p.1 ≠ t) :
    Inv X pins σ (upd H t (.frz ob (.tup xs))) s := by
  have ne : ∀ {b u}, H b = some u → b ≠ t := fun {b u} e z => by rw [z, hn] at e; cases e
  refine ⟨I.ok, I.os, I.bare, ⟨I.base.keep, I.base.slot, fun b o e n hx => ?_, I.base.there, fun b xs e => ?_, fun b o u e => ?_, fun b ps e => ?_⟩, I.loc, I.cell, ?_, fun x c e => ?_, fun p hp' => ?_, fun b u e => ?_, I.len⟩
  · rw [upd_ne (fun z => by rw [z, h0] at e; cases e)]
    exact I.base.free b o e n hx
  · have q := I.base.tups b xs e
    rw [upd_ne (ne q)]; exact q
  · have q := I.base.frzs b o u e
    rw [upd_ne (ne q)]; exact q
  · obtain ⟨m, q⟩ := I.base.tbls b ps e
    exact ⟨m, by rw [upd_ne (ne q)]; exact q⟩
  · rw [upd_ne (Ne.symm hl)]; exact I.free
  · rw [upd_ne (hc x c e)]; exact I.freeC x c e
  · obtain ⟨e, n, r⟩ := I.pin p hp'
    exact ⟨e, by rw [upd_ne (hp p hp')]; exact n, r⟩
  · by_cases hb : b = t
    · subst hb
      rw [upd_same] at e
      cases e
      exact ⟨ht, hz, its, hv, hi⟩
    · rw [upd_ne hb] at e
      exact (I.hok b u e).stay (fun c v _ q => q) (fun c q => by rw [upd_ne (ne q)]; exact q) fun c xs q => by rw [upd_ne (ne q)]; exact q
end
end De
end
section
set_option Elab.async false
set_option linter.all false
set_option maxRecDepth 100000
set_option maxHeartbeats 2000000
/-! for x in g: y = x. -/
namespace De
open PySem L2 PySem.Spec PyProof.Rows GenW
/-- the generator with n turns ahead -/
structure Gat (G : GP) (st : Nat → List Str) (Nn a g n : Nat) (s : Shared) : Prop where
  gen : s.heap.IsGen a g
  lim : s.heap.NoLimit
  go : ∃ gs, s.gens[g]? = some gs ∧ gs.Goes (model G.P G.w) G.A (RT G) (YT G st Nn) n (.send .none) (s.setGen g .running)
theorem gat_next {G : GP} {st : Nat → List Str} {Nn a g n : Nat} {s : Shared} {A0 : Around} {Q : Option Value → Shared → Prop} {E : Value → Shared → Prop} (hA : G.A = A0.in1) (hh : A0.handled = none) (hd : A0.depth < recursionLimit) (h : Gat G st Nn a g n s)
    (hself : ∀ s1, Mvd G.outer G.L G.M s s1 → Slp G s1 s1)
    (hY : ∀ n' j t ob s1 gs', n = n' + 1 → n' + j = Nn → TupH s1.heap t ob (st j) → Mvd G.outer G.L G.M s s1 → t ≠ G.L → (G.Hc t = none ∨ G.H0 t = some (.frz ob (.tup ((st j).map V.str)))) → gs'.bare = true → g < s1.gens.size →
      (∀ s2, Slp G s1 s2 → gs'.Goes (model G.P G.w) G.A (RT G) (YT G st Nn) n' (.send .none) s2) → Q (some (.ref t)) (s1.setGen g gs'))
    (hP : ∀ s1 h', n = 0 → Mvd G.outer G.L G.M s s1 → (∀ b o, s1.heap.get? b = some o → h'.get? b = some o) → Q none { s1.setGen g .finished with heap := h' }) : wpAny (model G.P G.w) A0 (pyNext (.ref a)) Q E s := by
  obtain ⟨gs, hgs, hgo⟩ := h.go
  have hgl : g < s.gens.size := (Array.getElem?_eq_some_iff.mp hgs).1
  have mv : ∀ {s1}, Mvd G.outer G.L G.M (s.setGen g .running) s1 → Mvd G.outer G.L G.M s s1 := fun m => ⟨m.os, m.bare, m.keep, m.slot, m.lim⟩
  rw [hA] at hgo
  refine wpAny_gsz (n := g + 1) hgl (next_genG (A := A0) (F := fun n s₀ s1 => n = 0 ∧ Mvd G.outer G.L G.M s₀ s1) (Er := fun _ _ => False) (Y := YT G st Nn) hh h.lim hd h.gen hgs hgo (fun v s1 gs' hb hv => ?_) (fun s1 hp h' hk => ?_) fun e s1 he => he.elim)
  · obtain ⟨j, t, ob, e1, rfl, ht, hm, htl, hct, hk⟩ := hv
    intro hsz
    have hsz' : g < s1.gens.size := by
      have q : (s1.setGen g gs').gens.size = s1.gens.size := setGen_size _ _ _
      have hsz' : g + 1 ≤ (s1.setGen g gs').gens.size := hsz
      omega
    cases n with
    | zero => exact (hk s1 (hself s1 (mv hm))).elim
    | succ n' =>
      refine hY n' j t ob s1 gs' rfl (by simpa using e1) ht (mv hm) htl hct hb hsz' fun s2 z => ?_
      have := hk s2 z
      rw [hA]
      exact this
  · obtain ⟨e, hm⟩ := hp
    intro _
    exact hP s1 h' e (mv hm) hk
/-- what a name is given, in a loop over the generator -/
def After (G : GP) (st : Nat → List Str) (s : Shared) (j t : Nat) : Prop := ∃ ob, TupH s.heap t ob (st j) ∧ t ≠ G.L ∧ (G.Hc t = none ∨ G.H0 t = some (.frz ob (.tup ((st j).map V.str))))
theorem tup_data {h : Heap} {t : Addr} {ob : Obj} {ss : List Str} (x : TupH h t ob ss) : (∃ xs n, ob.data = .seq xs n) := by
  obtain ⟨h1, _, _, its, _, o, ho, _, n, hd⟩ := x
  rw [h1] at ho
  cases ho
  exact ⟨_, n, hd⟩
theorem After.stay {G : GP} {st : Nat → List Str} {s s1 : Shared} {j t : Nat} (x : After G st s j t) (k : ∀ o, s.heap.get? t = some o → Bare o → (∀ v, o.data ≠ .cell v) → s1.heap.get? t = some o) : After G st s1 j t := by
  obtain ⟨ob, h, h2, h3⟩ := x
  obtain ⟨xs, n, hd⟩ := tup_data h
  have e := k ob h.1 h.2.1 fun v q => by rw [hd] at q; cases q
  obtain ⟨h1, hb, hz, its, hv, o, ho, r⟩ := h
  refine ⟨ob, ⟨e, hb, hz, its, hv, o, ?_, r⟩, h2, h3⟩
  rw [h1] at ho
  cases ho
  exact e
theorem set2 {α : Type} {l : List α} {i j : Nat} {a b c d : α} : ((((l.set i a).set j b).set i c).set j d) = (l.set i c).set j d := by
  apply List.ext_getElem?
  intro k
  simp only [List.getElem?_set, List.length_set]
  split
  · rfl
  · split
    · rfl
    · rfl
theorem inv_regen {X : Cx} {pins : List (Addr × Obj)} {σ : L2.St} {H : Hp} {s : Shared} {gs : Array GenState} (I : Inv X pins σ H s) (hb : AllBare gs) : Inv X pins σ H { s with gens := gs } :=
  ⟨I.ok, I.os, hb, I.base, I.loc, I.cell, I.free, I.freeC, I.pin, I.hok, I.len⟩
section
variable {X : Cx} {pins : List (Addr × Obj)} {σ : L2.St} {H B : Hp} {sc s : Shared} {G : GP} {st : Nat → List Str} {Nn a g : Nat}
/-- the caller's things lie below the generator's frame -/
structure Below (X : Cx) (pins : List (Addr × Obj)) (H : Hp) (sc : Shared) (L M : Addr) : Prop where
  s0 : X.s_0.heap.objs.size ≤ L
  loc : X.env.locals < L
  cel : ∀ x c, X.env.cells.lookup x = some c → c < L
  pin : ∀ p ∈ X.pn ++ pins, p.1 ≠ L ∧ p.1 < M
  trk : ∀ b, H b ≠ none → b < L
  frm : ∀ b ∈ frs X.stack, b < L
  lm : L < M
theorem below_of {L M : Addr} (I : Inv X pins σ H sc) (hL : sc.heap.objs.size ≤ L) (hM : L < M) : Below X pins H sc L M where
  s0 := Nat.le_trans I.sz hL
  loc := Nat.lt_of_lt_of_le I.lt hL
  cel := fun x c e => by
    obtain ⟨v, q⟩ := I.cell x c e
    exact Nat.lt_of_lt_of_le q.lt hL
  pin := fun p hp => by
    have := Nat.lt_of_lt_of_le (Heap.lt_size (I.pin p hp).1) hL
    exact ⟨Nat.ne_of_lt this, Nat.lt_trans this hM⟩
  trk := fun b hb => by
    obtain ⟨u, e⟩ := Option.ne_none_iff_exists'.mp hb
    exact Nat.lt_of_lt_of_le (I.hok.lt e) hL
  frm := fun b hb => Nat.lt_of_lt_of_le (inv_frl I hb) hL
  lm := hM
theorem Below.mvd {L M : Addr} {s1 : Shared} (b : Below X pins H sc L M) (I : Inv X pins σ H s) (mv : Mvd X.stack L M s s1) : Inv X pins σ H s1 :=
  inv_mvd I mv b.s0 b.loc b.cel b.pin b.trk b.frm b.lm
theorem inv_ue (I : Inv X pins σ H s) : ∃ o, s.heap.get? X.env.locals = some o ∧ ∀ v, o.data ≠ .cell v := by
  obtain ⟨m, ⟨o, es, ep, ho, hd, _⟩, _⟩ := I.loc
  exact ⟨o, ho, fun v q => by rw [hd] at q; cases q⟩
/-- the loop -/
theorem for_gen {x y : Str} {i j : Nat} {px py pos ypos : Pos} {D : Ends} {M : Addr} {N : List Str} {qual : Str} {scope : Scope} {f : Addr} {cd : Value} {H₀ : Hp} {E : Value → Shared → Prop} (hG : G = mkG X N qual scope f cd X.A.in1 M [X.env.locals] sc H₀) (hN : X.N.Nodup) (hi : X.N[i]? = some x) (hj : X.N[j]? = some y) (hx : X.env.scope.names.lookup x = some .local) (hy : X.env.scope.names.lookup y = some .local)
    (hc : X.A.handled = none) (hd : X.A.depth < recursionLimit) (b : Below X pins H sc (sc.heap.objs.size + 1) M) (ha : a < M ∧ sc.heap.objs.size + 1 < a) (I : Inv X pins σ H s) (gat : Gat G st Nn a g (Nn + 1) s)
    (hfc : ∀ b ∈ frs X.stack, ∃ o, sc.heap.get? b = some o) (hf0 : ∀ b ∈ frs X.stack, H₀ b = none) (hdb : (x == ("__debug__" : Str)) = false) (hsw : swapsWith (.Name x py) (some (.Name y ypos)) pos.line X.env = pure false)
    (hq : ∀ s' t, Inv X pins ((σ.set i (some (.ref t))).set j (some (.ref t))) H s' → After G st s' Nn t → SP X pins D .next s') :
    codeAny (model X.prog X.w) X.A (.forLoop (.Name x px) (.ref a) [.Assign [.Name y ypos] (.Name x py) pos] [] X.env) (fun r s' => match r with | .ok fl => SP X pins D fl s' | .error e => E e s') s := by
  have eP : G.P = X.prog := by rw [hG]; rfl
  have ew : G.w = X.w := by rw [hG]; rfl
  have eO : G.outer = X.stack := by rw [hG]; rfl
  have eL : G.L = sc.heap.objs.size + 1 := by rw [hG]; rfl
  have eM : G.M = M := by rw [hG]; rfl
  have eA : G.A = X.A.in1 := by rw [hG]; rfl
  have eU : G.U = [X.env.locals] := by rw [hG]; rfl
  have eB : G.base = X.base := by rw [hG]; rfl
  refine codeAny_forLoop (fun n s => ∃ σ', Inv X pins σ' H s ∧ Gat G st Nn a g n s ∧ ((n = Nn + 1 ∧ σ' = σ) ∨ ∃ k t, n + k = Nn ∧ σ' = (σ.set i (some (.ref t))).set j (some (.ref t)) ∧ After G st s k t)) (fun n s1 ⟨σ1, I1, gt, hs1⟩ => ?_) (Nn + 1) ⟨σ, I, gat, .inl ⟨rfl, rfl⟩⟩
  rw [← eP, ← ew]
  refine gat_next eA hc hd gt (fun s2 mv => ?_) (fun n' k t ob s2 gs' en ek ht mv htl hct hb hgs hk => ?_) fun s2 h' en mv hk => ?_
  · have I2 := b.mvd I1 (by rw [← eL, ← eM, ← eO]; exact mv)
    refine ⟨rfl, mv.bare, fun _ _ _ e => e, by rw [eB, eO]; exact I2.env0.funs, fun u hu => ?_⟩
    rw [eU] at hu
    rw [List.mem_singleton.mp hu]
    exact inv_ue I2
  · have mv' : Mvd X.stack (sc.heap.objs.size + 1) M s1 s2 := by rw [← eL, ← eM, ← eO]; exact mv
    have I2 := b.mvd I1 mv'
    have I3 : Inv X pins σ1 H (s2.setGen g gs') := inv_regen I2 (allBare_setGen mv.bare hb)
    refine wpAny_assign_Name (store_loc I3 hN hi hx (v := .ref t) rfl fun h1 tk1 sb1 I4 => ?_)
    have hiσ : i < σ1.length := by rw [I1.len]; exact (List.getElem?_eq_some_iff.mp hi).1
    obtain ⟨m, hn, hl⟩ := id I4.loc
    obtain ⟨u, ru, hlk⟩ := hl i x (.ref t) hi (List.getElem?_set_self hiσ) (.inl hx)
    cases ru
    have hm : m x = some (.ref t) := by
      rcases hlk with ⟨_, hm⟩ | ⟨hk', _⟩
      · exact hm
      · have hk' : X.env.scope.names.lookup x = some .cell ∨ X.env.scope.names.lookup x = some .free := hk'
        rw [hx] at hk'
        rcases hk' with z | z <;> cases z
    refine wpAny_execs_cons (wpAny_Assign_Name (wpAny_Name (wpAny_loadName_local I4.ok.kind hx hn hm ?_) hdb) hsw)
    refine store_loc I4 hN hj hy (v := .ref t) rfl fun h2 tk2 sb2 I5 => ?_
    refine wpAny_execs_nil ?_
    have nl : ∀ {q : Addr}, X.env.locals ≠ q → ∀ o, s2.heap.get? q = some o → h2.get? q = some o := fun {q} hne o e => (sb2.2 q (Ne.symm hne)).trans ((sb1.2 q (Ne.symm hne)).trans e)
    have hla : X.env.locals < a := Nat.lt_trans b.loc ha.2
    have slp : Slp G s2 (({ s2.setGen g gs' with heap := h2, toks := tk2 } : Shared).setGen g .running) := by
      refine ⟨rfl, allBare_setGen (s := { s2.setGen g gs' with heap := h2, toks := tk2 }) (allBare_setGen mv.bare hb) rfl, fun q o hq' e => nl (fun z => hq' (by rw [eU, ← z]; exact List.mem_singleton.mpr rfl)) o e, by rw [eB, eO]; exact I5.env0.funs, fun u hu => ?_⟩
      rw [eU] at hu
      rw [List.mem_singleton.mp hu]
      have z := inv_ue I5
      exact z
    refine ⟨n', by omega, _, I5, ⟨?_, I5.nolimit, gs', setGen_at hgs, hk _ slp⟩, .inr ⟨k, t, ek, ?_, ?_⟩⟩
    · obtain ⟨o, nm, qn, ho, r1, r2, r3⟩ := gt.gen
      refine ⟨o, nm, qn, nl (Nat.ne_of_lt hla) o (mv'.keep a o ho (Nat.ne_of_gt ha.2) (.inl ha.1) (fun _ v q => by rw [r2] at q; cases q) fun hm => absurd (b.frm a hm) (Nat.lt_asymm ha.2)), r1, r2, r3⟩
    · rcases hs1 with ⟨_, e⟩ | ⟨_, _, _, e, _⟩
      · rw [e]
      · rw [e]; exact set2
    · refine After.stay (s := s2) ⟨ob, ht, htl, hct⟩ fun o e _ _ => nl (fun z => ?_) o e
      obtain ⟨m2, ⟨o2, es, ep, ho2, hd2, _⟩, _⟩ := I2.loc
      obtain ⟨xs, nn, hd3⟩ := tup_data ht
      rw [z, ht.1] at ho2
      cases ho2
      rw [hd3] at hd2
      cases hd2
  · have mv' : Mvd X.stack (sc.heap.objs.size + 1) M s1 s2 := by rw [← eL, ← eM, ← eO]; exact mv
    have I2 := b.mvd I1 mv'
    subst en
    rcases hs1 with ⟨e, _⟩ | ⟨k, t, ek, e, af⟩
    · omega
    have ek' : k = Nn := by omega
    subst ek' e
    refine wpAny_execs_nil (hq _ t ?_ ?_)
    · exact inv_regen (I2.kept (t' := s2.toks) hk) (allBare_setGen mv.bare rfl)
    · refine af.stay fun o e hb hcell => hk t o (mv'.keep t o e ?_ (.inr hb) (fun _ => hcell) fun hm => ?_)
      · obtain ⟨_, _, h2, _⟩ := af
        rw [eL] at h2
        exact h2
      · obtain ⟨ob, _, _, h3⟩ := af
        obtain ⟨o', e'⟩ := hfc t hm
        rcases h3 with z | z
        · rw [hG] at z
          have z : (sc.heap.get? t).map (fun _ => HO.own 0) = none := z
          rw [e'] at z
          cases z
        · rw [hG] at z
          have z : H₀ t = some _ := z
          rw [hf0 t hm] at z
          cases z
end
end De
end
section
set_option Elab.async false
set_option linter.all false
set_option maxRecDepth 100000
set_option maxHeartbeats 4000000
/-! machine.py: trace -/
namespace De
open PySem L2 PySem.Spec PyProof.Rows GenW
local macro_rules | `(tactic| walk_at "de") => `(tactic| first
  | with_reducible refine go_seq ?_
  | with_reducible refine go_set ?_
  | with_reducible refine go_ret ?_
  | with_reducible refine go_if ?_
  | with_reducible refine go_next ?_
  | with_reducible refine go_drop ?_
  | ((with_reducible apply ev_da); exact rfl)
  | ((with_reducible apply ev_va); exact rfl)
  | with_reducible refine ev_c ?_
  | with_reducible refine ev_op ?_
  | with_reducible refine ev_un ?_
  | with_reducible refine ea_nil ?_
  | with_reducible refine ea_cons ?_
  | with_reducible refine ev_sortset ?_
  | ((with_reducible apply ev_cells); (focus assumption); (focus assumption))
  | ((with_reducible apply ev_reach); (focus assumption); (focus assumption))
  | ((with_reducible apply ev_made); (focus assumption); (focus assumption))
  | with_reducible refine ev_height ?_
  | ((with_reducible apply ev_methS); (focus (decide +kernel)); (focus (decide +kernel)); (focus (decide +kernel)))
  | with_reducible refine ev_callS ?_
  | with_reducible refine ev_count ?_
  | with_reducible refine ev_tcount ?_
  | with_reducible refine oc_len_c ?_
  | with_reducible refine ev_cb ?_
  | with_reducible refine eb_test ?_
  | with_reducible refine eb_B ?_
  | with_reducible refine eb_and ?_
  | with_reducible refine eb_or ?_
  | with_reducible refine eb_not ?_
  | with_reducible refine ev_andV ?_
  | with_reducible refine ev_orV ?_
  | with_reducible refine ev_notV ?_
  | with_reducible refine ev_if ?_
  | with_reducible refine ev_sl ?_
  | with_reducible refine eo_no ?_
  | with_reducible refine eo_some ?_
  | with_reducible refine ev_tup' ?_
  | with_reducible refine ev_callX ?_
  | with_reducible refine ev_callP ?_
  | with_reducible refine ev_callNP ?_
  | with_reducible refine ev_call ?_
  | with_reducible refine ev_callN ?_
  | with_reducible refine ev_chain ?_
  | with_reducible refine o_I0 ?_
  | with_reducible refine o_eqI ?_
  | with_reducible refine o_neI ?_
  | with_reducible refine o_eqS ?_
  | with_reducible refine o_neS ?_
  | with_reducible refine o_isN ?_
  | with_reducible refine o_notN ?_
  | with_reducible refine o_ltS ?_
  | with_reducible refine o_U ?_
  | with_reducible refine oc_len_tS ?_
  | with_reducible refine oc_len_lS ?_
  | with_reducible refine oc_len_t ?_
  | with_reducible refine oc_len_l ?_
  | with_reducible refine o_ix0 ?_
  | with_reducible refine o_ix1 ?_
  | with_reducible refine ev_dnew ?_
  | with_reducible refine oc_isiT ?_
  | with_reducible refine oc_isiTL ?_
  | with_reducible refine oc_isiI ?_
  | with_reducible refine oc_isiIB ?_
  | with_reducible refine oc_isiS ?_
  | with_reducible refine oc_min2 ?_
  | with_reducible refine oc_max2 ?_
  | with_reducible refine oc_abs ?_
  | with_reducible refine oc_tup_lS ?_
  | with_reducible refine oc_tup_l ?_
  | with_reducible refine o_inF ?_
  | with_reducible refine o_inT ?_
  | with_reducible refine o_inLF ?_
  | with_reducible refine o_inLT ?_
  | with_reducible refine eb_yes ?_
  | (refine Exists.intro _ (Exists.intro _ (Exists.intro _ (Exists.intro _ (Exists.intro _ (Exists.intro _ (Exists.intro _ (Exists.intro _ (And.intro rfl (And.intro rfl ?_))))))))))
  | (refine Exists.intro _ (And.intro (show dats _ = some _ from rfl) (And.intro (show Nat.ble _ 60 = true from rfl) ?_)))
  | with_reducible refine Exists.intro _ (And.intro rfl ?_))
local macro_rules | `(tactic| walk_at "cx") => `(tactic| try simp only [cx_K, cx_K'])
local macro_rules | `(tactic| walk_at "go") => `(tactic| repeat walk_at "de")

abbrev N54 : List Str := ["stack", "parts", "reach", "index", "instruction"]
abbrev P54 : List Str := ["stack", "reach", "parts"]
theorem nd54 : N54.Nodup := by decide +kernel
abbrev GTr (P : Program) (w : World) (K : PySem.W.Frag) (mg : Str → Option Value) (base : Heap) (f : Addr) (cd : Value) (A : Around) (outer : List Env) (L M : Addr) (U : List Addr) (Hc H0 : Hp) : GP :=
  { P := P, w := w, K := K, mg := mg, base := base, N := N54, qual := "trace", scope := defScope (topS 54), f := f, cd := cd, A := A, outer := outer, L := L, M := M, U := U, Hc := Hc, H0 := H0 }
/-- the stack behind i instructions -/
def stA (S : List Str) (Lx : List Ins) (i : Nat) : List Str := (Lx.take i).foldl app S
theorem stA_succ {S : List Str} {Lx : List Ins} {i : Nat} {x : Ins} (h : Lx[i]? = some x) : stA S Lx (i + 1) = app (stA S Lx i) x := by
  unfold stA
  rw [List.take_add_one, h, Option.toList_some, List.foldl_append]
  rfl
/-- each instruction may be done -/
def InsAll (r : Nat) (S : List Str) (Lx : List Ins) : Prop := ∀ i x, Lx[i]? = some x → insOk r x = true ∧ x.need ≤ (stA S Lx i).length ∧ (stA S Lx i).length < 80000
section
variable {P : Program} {w : World} {K : PySem.W.Frag} {mg : Str → Option Value} {base : Heap} {f : Addr} {cd : Value} {A : Around} {outer : List Env} {L M : Addr} {U : List Addr} {Hc H0 : Hp}
theorem tr_g1 (T : Tx K mg) {S : List Str} {Lx : List Ins} {r : Nat} {wP : Sl} (hv : InsAll r S Lx) (g : Gr) (i : Nat) (x : Ins) (eg : g.ms = []) (hx : Lx[i]? = some x) :
    Go K g (slT (stA S Lx i) wP r (dI (i : Nat)) (.da (insD x))) [] (tIfS (tOr (tNot (tB (tCallN 1 1 (spG K (pu D32)) (fun vs zs => vs ++ zs) E0 (tCons (tVar 4) tNil) (tCons (tVar 2) tNil)))) (tTest (tOp (rI0 fun i j => .bl (decide (j < i))) (tCall (spG K (pu D35)) [] E0 (tCons (tVar 4) tNil)) (tCB (Evl.rLenS K) (tCons (tVar 0) tNil))))) tNever tNext)
      { nx := fun δ' μ' => δ' = slT (stA S Lx i) wP r (dI (i : Nat)) (.da (insD x)) ∧ μ' = [], rt := fun _ _ => False } := by
  obtain ⟨h1, h2, h3⟩ := hv i x hx
  walk_at "go"
  refine ⟨rfl, rfl, _, ⟨x, r, rfl, rfl⟩, _, rfl, fun _ => ?_, fun h => (by rw [h1] at h; cases h)⟩
  walk_at "go"
  refine ⟨_, ⟨x, rfl, rfl⟩, ?_⟩
  walk_at "go"
  refine ⟨fun h => ?_, fun _ => ?_⟩
  · have := of_decide_eq_true h
    omega
  walk_at "go"
  exact ⟨rfl, rfl⟩
theorem tr_g2 (T : Tx K mg) {S : List Str} {Lx : List Ins} {r : Nat} {wP : Sl} (hv : InsAll r S Lx) (g : Gr) (i : Nat) (x : Ins) (eg : g.ms = []) (hx : Lx[i]? = some x) :
    Go K g (slT (stA S Lx i) wP r (dI (i : Nat)) (.da (insD x))) [] (tAsg (tCall (spG K (pu D52)) [] E0 (tCons (tVar 0) (tCons (tVar 4) tNil))) (gName 0))
      { nx := fun δ' μ' => δ' = slT (stA S Lx (i + 1)) wP r (dI (i : Nat)) (.da (insD x)) ∧ μ' = [], rt := fun _ _ => False } := by
  obtain ⟨h1, h2, h3⟩ := hv i x hx
  walk_at "go"
  refine ⟨_, ⟨stA S Lx i, x, rfl, h3, h2, ?_, rfl⟩, ?_⟩
  · cases x with
    | pop => trivial
    | dup j => simp [insOk] at h1; exact h1.1
    | swap j => simp [insOk] at h1; exact h1.1
  walk_at "go"
  rw [stA_succ hx]
  exact ⟨rfl, rfl⟩
theorem tr_gj (T : Tx K mg) {S : List Str} {Lx : List Ins} {r : Nat} (hl : Lx.length < 70000) (g : Gr) (eg : g.ms = []) :
    EvA K g (slT (stA S Lx 0) (.da (.tuple [.tuple (Lx.map insD)])) r .no .no) [] (tCons (tCall (spG K (pu D34)) [] E0 (tCons (tVar 1) tNil)) tNil) fun ws μ => ws = [dL (Lx.map insD)] ∧ μ = [] := by
  walk_at "go"
  refine ⟨_, ⟨_, rfl, tups_ins Lx, by rw [List.length_map]; exact hl, rfl⟩, ?_⟩
  walk_at "go"
  exact ⟨rfl, rfl⟩
theorem trace_seg (T : Tx K mg) (ok : (GTr P w K mg base f cd A outer L M U Hc H0).Ok) (hr : Room 3 A) {S : List Str} {Lx : List Ins} {r : Nat} (hv : InsAll r S Lx) (hl : Lx.length < 70000) {s₀ : Shared} {H₀ : Hp} {σ : L2.St} (k : Wk (GTr P w K mg base f cd A outer L M U Hc H0) s₀ H₀)
    (rn : Rn (GTr P w K mg base f cd A outer L M U Hc H0) s₀ H₀ [] (slT (stA S Lx 0) (.da (.tuple [.tuple (Lx.map insD)])) r .no .no) s₀ σ H₀ H₀) :
    Seg (model P w) A (RT (GTr P w K mg base f cd A outer L M U Hc H0)) (YT (GTr P w K mg base f cd A outer L M U Hc H0) (stA S Lx) Lx.length) (Lx.length + 1) s₀
      (.func (defBody (topS 54)) (envOfC "trace" (defScope (topS 54)) L f cd)) ((model P w).den (.func (defBody (topS 54)) (envOfC "trace" (defScope (topS 54)) L f cd))) [] s₀ := by
  refine gen_seg (G := GTr P w K mg base f cd A outer L M U Hc H0) (wP := .da (.tuple [.tuple (Lx.map insD)])) (r := r) ok (fun s H => pg_tup rfl (pgs_cons (pg_name (i := 3) nd54 rfl (.inl rfl)) (pgs_cons (pg_name (i := 4) nd54 rfl (.inl rfl)) pgs_nil)))
    (fun s H => have hr := hr.deeper (envOfC "trace" (defScope (topS 54)) (cutS s L).heap.objs.size f cd); ps_if (PW.pt (pw_or (pt_not (pt_val (pe_callN (ok32 T) (hr.mono (by decide)) (by rfl) T.f32.g T.f32.F.kp T.f32.k pass0 (pa_cons (pv 4) pa_nil) (pk_cons (pv 2) pk_nil)))) (pw_or1 (pt_cmpR op_gt (pe_call (ok35 T) (hr.mono (by decide)) (by rfl) T.f35.g T.f35.F.kp T.f35.b .nil pass0 (pa_cons (pv 4) pa_nil)) (pe_callB (r := Evl.rLenS K) call_lenS (by rfl) T.z_len (by decide +kernel) (pa_cons (pv 0) pa_nil)) (nomark _))))) (pss_one (ps_never)) pss_nil)
    (fun s H => have hr := hr.deeper (envOfC "trace" (defScope (topS 54)) (cutS s L).heap.objs.size f cd); ps_set (i := 0) nd54 rfl (.inl rfl) (pe_call (ok52 T) (hr.mono (by decide)) (by rfl) T.f52.g T.f52.F.kp T.f52.b .nil pass0 (pa_cons (pv 0) (pa_cons (pv 4) pa_nil))))
    (fun s H => pv 0) (fun s H => pv 0) (fun s H => have hr := hr.deeper (envOfC "trace" (defScope (topS 54)) (cutS s L).heap.objs.size f cd); pa_cons (pe_call (ok34 T) (hr.mono (by decide)) (by rfl) T.f34.g T.f34.F.kp T.f34.b .nil pass0 (pa_cons (pv 1) pa_nil)) pa_nil)
    (tr_g1 T hv) (tr_g2 T hv) (tr_gj T hl) rfl rfl (fun s H => by rfl) T.z_enumerate rfl (fun x => rfl) k rn
end
end De
end
section
set_option Elab.async false
set_option linter.all false
set_option maxRecDepth 100000
set_option maxHeartbeats 2000000
/-! trace(..) called; the loop of run. -/
namespace De
open PySem L2 PySem.Spec PyProof.Rows GenW
theorem rn_first {G : GP} {s : Shared} {H₀ : Hp} {δ : List Sl} {σ0 : L2.St} (ok : G.Ok) (k : Wk G s H₀) (loc : ∃ m, s.heap.Ns G.L m ∧ ∀ (i : Nat) (x : Str) (v : V), G.N[i]? = some x → σ0[i]? = some (some v) → G.scope.names.lookup x = some .local → ∃ u, RelV v u ∧ m x = some u)
    (len : σ0.length = G.N.length) (hln : σ0.length = δ.length) (hsl : ∀ (i : Nat) (w : Sl), δ[i]? = some w → SlotOk G.K H₀ (σ0[i]?) w) : Rn G s H₀ [] δ s σ0 H₀ H₀ := by
  refine ⟨inv_wake ok.hk ok.nc ok.nn ⟨ok.hd, ok.frames, ok.mod, k.bs, ok.bsz, k.lt, k.funs, ok.frl, k.frf, k.bare, k.free, k.hok⟩ loc (fun p hp => ?_) len, ⟨fun _ _ e => e, fun _ _ e => e, fun _ _ _ => rfl, fun _ _ e _ => e, fun b o e q => (by have e' : H₀ b = some o := e; have q' : H₀ b = none := q; rw [e'] at q'; cases q'), hln, hsl, fun _ q => (by cases q), List.nodup_nil⟩⟩
  obtain ⟨h1, h2, h3, h4, h5⟩ := mem_pinsAll.mp hp
  exact ⟨h1, h3, Nat.ne_of_gt h2, fun hm => absurd (ok.frl _ hm) (Nat.lt_asymm h2), h5⟩
theorem dpAll_str {K : PySem.W.Frag} {B : Hp} : ∀ (ss : List Str), DpAll K B (ss.map V.str) (ss.map PyData.str)
  | [] => .nil
  | s :: ss => .cons (.str s) (dpAll_str ss)
theorem bind54 (kV doc pm : Value) (an : Option Addr) (cdv ct : Value) (S I r : Value) : bindArgs (PySem.W.fnOf "trace" "trace" (defArgs (topS 54)) (defBody (topS 54)) (defScope (topS 54)) .none kV doc pm an cdv ct) ⟨[S, I], [(("reach" : Str), r)]⟩ = (newTuple [I] >>= fun t => pure (P54.zip [S, r, t])) := by rfl
theorem nc54 : ∀ n, cellsFrom n (defScope (topS 54)).names [] = [] := fun n => by rfl
theorem nn54 : ∀ x, (defScope (topS 54)).names.lookup x ≠ some .cell ∧ (defScope (topS 54)).names.lookup x ≠ some .free := by
  have h : (defScope (topS 54)).names.all (fun y => y.2 != .cell && y.2 != .free) = true := by decide +kernel
  refine fun x => ⟨fun e => ?_, fun e => ?_⟩
  · have := List.all_eq_true.mp h _ (PySem.mem_of_lookup e)
    simp at this
  · have := List.all_eq_true.mp h _ (PySem.mem_of_lookup e)
    simp at this
theorem par54 : ∀ x ∈ P54, (defScope (topS 54)).names.lookup x = some .local := by
  intro x hx
  have h : P54.all (fun x => (defScope (topS 54)).names.lookup x == some .local) = true := by decide +kernel
  have := List.all_eq_true.mp h x hx
  simpa using this
section
variable {X : Cx} {pins : List (Addr × Obj)} {σ : L2.St} {H B : Hp} {sc s' : Shared} {f : Addr} {cd : Value} {a g M : Nat} {U : List Addr} {uS uI uR : Value} {vS vI : V} {S : List Str} {Lx : List Ins} {r : Nat}
abbrev G54 (X : Cx) (f : Addr) (cd : Value) (A : Around) (M : Addr) (U : List Addr) (sc : Shared) (H₀ : Hp) : GP := mkG X N54 "trace" (defScope (topS 54)) f cd A M U sc H₀
/-- the generator of trace, asked for the first time at s2 -/
theorem gat_first {s2 : Shared} {A : Around} (T : Tx X.K X.mg) (hr : Room 3 A) (hfr : A.frames = some X.stack) (I : Inv X pins σ H sc) (bh : Same B H) (m : Gmd "trace" (defScope (topS 54)) f cd (defBody (topS 54)) P54 (fun t => [uS, uR, t]) [uI] sc s' a g) (hS : RelV vS uS) (hI : RelV vI uI) (hR : RelV (.int (r : Nat)) uR)
    (dS : Dp X.K B vS (tS S)) (dI' : Dp X.K B vI (.tuple (Lx.map insD))) (hv : InsAll r S Lx) (hl : Lx.length < 70000)
    (hM : sc.heap.objs.size + 2 < M) (hU : ∀ u ∈ U, H u = none ∧ u ≠ sc.heap.objs.size ∧ X.base.get? u = none ∧ u ≠ sc.heap.objs.size + 1 ∧ u < M) (hau : a ∉ U)
    (hmx : ∃ o, s2.heap.get? (M - 1) = some o ∧ ∀ v, o.data ≠ .cell v) (hb : AllBare s2.gens) (hgg : s2.gens[g]? = s'.gens[g]?) (kp : ∀ b o, b ∉ U → s'.heap.get? b = some o → s2.heap.get? b = some o) (hfu : s2.heap.FunFrames X.base X.stack) (hue : ∀ u ∈ U, ∃ o, s2.heap.get? u = some o ∧ ∀ v, o.data ≠ .cell v) (hlim : s2.heap.NoLimit) :
    Gat (G54 X f cd A M U sc (h0 B sc s' [uI] [vI])) (stA S Lx) Lx.length a g (Lx.length + 1) s2 := by
  obtain ⟨k, kd, ktp⟩ := first_wake (qual := "trace") (scope := defScope (topS 54)) (N := N54) (A := A) (M := M) (U := U) (s2 := s2.setGen g .running) I bh m (xs := [vI]) (.cons hI .nil) (by show 1 ≤ sizeLine; decide) (fun u hu => ⟨(hU u hu).1, (hU u hu).2.1, (hU u hu).2.2.1, (hU u hu).2.2.2.1⟩) hmx (allBare_setGen hb rfl) kp hfu hue
  have ok : (G54 X f cd A M U sc (h0 B sc s' [uI] [vI])).Ok := mkG_ok I rfl nc54 nn54 hr.hd hfr hM fun u hu => ⟨(hU u hu).2.2.2.2, (hU u hu).2.2.2.1, (hU u hu).2.2.1⟩
  have rn : Rn (G54 X f cd A M U sc (h0 B sc s' [uI] [vI])) (s2.setGen g .running) (h0 B sc s' [uI] [vI]) [] (slT (stA S Lx 0) (.da (.tuple [.tuple (Lx.map insD)])) r .no .no) (s2.setGen g .running) [some vS, some (.ref sc.heap.objs.size), some (.int (r : Nat)), none, none] (h0 B sc s' [uI] [vI]) (h0 B sc s' [uI] [vI]) := by
    refine rn_first ok k ?_ rfl rfl fun i w e => ?_
    · obtain ⟨o, es, ep, ho, q⟩ := m.ns
      refine ⟨_, ⟨o, es, ep, kp _ o (fun hm => (hU _ hm).2.2.2.1 rfl) ho, q⟩, fun i x v e1 e2 e3 => ?_⟩
      have nd : P54.Nodup := by decide +kernel
      have kk : ∀ (j : Nat) (x' : Str) (u : Value), P54[j]? = some x' → ([uS, uR, .ref sc.heap.objs.size] : List Value)[j]? = some u → bindL (envOfC "trace" (defScope (topS 54)) (sc.heap.objs.size + 1) f cd).kindOf (P54.zip [uS, uR, .ref sc.heap.objs.size]) (fun _ => none) x' = some u := fun j x' u h1 h2 => bindL_get nd h1 h2 (par54 x' (List.mem_of_getElem? h1))
      match i, e1, e2 with
      | 0, e1, e2 => cases e1; cases e2; exact ⟨uS, hS, kk 0 _ _ rfl rfl⟩
      | 1, e1, e2 => cases e1; cases e2; exact ⟨_, rfl, kk 2 _ _ rfl rfl⟩
      | 2, e1, e2 => cases e1; cases e2; exact ⟨uR, hR, kk 1 _ _ rfl rfl⟩
      | 3, e1, e2 => cases e2
      | 4, e1, e2 => cases e2
      | _ + 5, e1, e2 => cases e2
    · match i, e with
      | 0, e => cases e; exact ⟨vS, rfl, kd _ _ dS⟩
      | 1, e => cases e; exact ⟨_, rfl, .tup ⟨_, ktp, rfl, rfl⟩ (.cons (kd _ _ dI') .nil)⟩
      | 2, e => cases e; exact ⟨_, rfl, .int _⟩
      | 3, e => cases e; trivial
      | 4, e => cases e; trivial
      | _ + 5, e => cases e
  refine ⟨?_, hlim, _, hgg.trans m.fresh, rfl, ?_⟩
  · obtain ⟨o, nm, qn, ho, q⟩ := m.gen
    exact ⟨o, nm, qn, kp a o hau ho, q⟩
  · exact trace_seg (P := X.prog) (w := X.w) (K := X.K) (mg := X.mg) (base := X.base) T ok hr hv hl k rn
end
end De
end
section
set_option Elab.async false
set_option linter.all false
set_option maxRecDepth 100000
set_option maxHeartbeats 2000000
/-! for now in trace(stack, *parts, reach=reach): stack = now -/
namespace De
open PySem L2 PySem.Spec PyProof.Rows GenW
/-- what the call is given -/
def TrIn (K : PySem.W.Frag) (B : Hp) (vs zs : List V) (S : List Str) (Lx : List Ins) (r : Nat) : Prop := ∃ vS vI, vs = [vS, vI] ∧ zs = [.int (r : Nat)] ∧ Dp K B vS (tS S) ∧ Dp K B vI (.tuple (Lx.map insD)) ∧ InsAll r S Lx ∧ Lx.length < 70000
def tForT (K : PySem.W.Frag) (i j : Nat) (ta tk : TA) : TS := fun D σ H => ta σ H fun vs H1 => tk σ H1 fun zs H2 => ∃ B S Lx r, Same B H2 ∧ TrIn K B vs zs S Lx r ∧
  ∀ v B' H', Frm B H2 B' H' [] [] → Dp K B' v (tS (stA S Lx Lx.length)) → D.nx ((σ.set i (some v)).set j (some v)) H'
theorem frm_refl {B H : Hp} (h : Same B H) : Frm B H B H [] [] := ⟨fun _ _ e => e, h, fun _ _ _ => rfl, fun _ _ e _ => e, fun _ _ e q => (by rw [e] at q; cases q), [], rfl, fun _ z => (by cases z)⟩
theorem frm_new {B H : Hp} {t : Addr} {u : HO} (h : Same B H) (hn : H t = none) : Frm B H (upd B t u) (upd H t u) [] [] := by
  have bn : B t = none := by
    cases q : B t with
    | none => rfl
    | some o => rw [h _ o q] at hn; cases hn
  have ne : ∀ {b o}, H b = some o → b ≠ t := fun {b o} e z => by rw [z, hn] at e; cases e
  refine ⟨same_new bn, fun b o e => ?_, fun b o e => upd_ne (ne e), fun b o e _ => (upd_ne (ne e)).trans e, fun b o e q => ?_, [], rfl, fun _ z => (by cases z)⟩
  · by_cases hb : b = t
    · subst hb; rw [upd_same] at e ⊢; exact e
    · rw [upd_ne hb] at e ⊢; exact h b o e
  · rw [upd_ne (ne e), e] at q; cases q
theorem obj_ex {P : Program} {w : World} {H : Hp} {h : Heap} {a : Addr} {o : HO} (x : ObjOk P w H h a o) : ∃ ob, h.get? a = some ob := by
  cases o with
  | lst xs => obtain ⟨_, _, _, _, e⟩ := x; exact ⟨_, e⟩
  | tup xs => obtain ⟨_, _, _, o, e, _⟩ := x; exact ⟨_, e⟩
  | dK kvs => obtain ⟨_, _, _, _, o, _, _, e, _⟩ := x; exact ⟨_, e⟩
  | dT kvs => obtain ⟨_, _, _, _, o, _, _, e, _⟩ := x; exact ⟨_, e⟩
  | set S n => obtain ⟨o, _, _, _, e, _⟩ := x; exact ⟨_, e⟩
  | ins C dx fs => obtain ⟨_, _, _, e, _⟩ := x; exact ⟨_, e⟩
  | own y => exact x
  | xd fs => obtain ⟨_, ⟨_, _, _, e, _⟩, _⟩ := x; exact ⟨_, e⟩
  | rng lo hi => obtain ⟨_, _, _, e⟩ := x; exact ⟨_, e⟩
  | frz ob u => obtain ⟨e, _⟩ := x; exact ⟨_, e⟩
  | tbl ps => exact ⟨_, x⟩
  | met f y => exact ⟨_, x⟩
  | ext φ => obtain ⟨_, e, _⟩ := x; exact e
section
variable {X : Cx} {pins : List (Addr × Obj)} {σ σ' : L2.St} {H B : Hp} {sc s' s2 : Shared} {f : Addr} {cd : Value} {A : Around} {M : Addr} {U : List Addr} {uI : Value} {vI : V} {st : Nat → List Str} {k t : Nat} {dsI : List PyData}
/-- the caller takes what came last under its own data -/
theorem take_last (hex : X.ex = []) (Ic : Inv X pins σ H sc) (bh : Same B H) (hI : Dp X.K B vI (.tuple dsI)) (I : Inv X pins σ' H s2) (af : After (G54 X f cd A M U sc (h0 B sc s' [uI] [vI])) st s2 k t) :
    ∃ v B' H', v = V.ref t ∧ Inv X pins σ' H' s2 ∧ Frm B H B' H' [] [] ∧ Dp X.K B' v (tS (st k)) := by
  obtain ⟨ob, ht, htl, hct⟩ := af
  obtain ⟨h1, hb, hz, its, hv, hi⟩ := ht
  rcases hct with q | q
  · have q : (sc.heap.get? t).map (fun _ => HO.own 0) = none := q
    have qn : sc.heap.get? t = none := by
      cases e : sc.heap.get? t with
      | none => rfl
      | some o => rw [e] at q; cases q
    have hn : H t = none := by
      cases e : H t with
      | none => rfl
      | some u =>
        obtain ⟨o, eo⟩ := obj_ex (Ic.hok t u e)
        rw [qn] at eo
        cases eo
    have h0n : X.s_0.heap.get? t = none := by
      cases e : X.s_0.heap.get? t with
      | none => rfl
      | some o =>
        obtain ⟨o', eo⟩ := Ic.base.there t o e (by rw [hex]; exact fun z => by cases z)
        rw [qn] at eo
        cases eo
    refine ⟨_, _, _, rfl, inv_track I h1 hz its hv hi hn h0n (fun z => ?_) (fun x c e z => ?_) (fun p hp z => ?_), frm_new bh hn, .tup ⟨ob, upd_same, hb⟩ (dpAll_str _)⟩
    · obtain ⟨o, eo, _⟩ := inv_ue Ic
      rw [← z, qn] at eo
      cases eo
    · obtain ⟨v, o, eo, _⟩ := Ic.cell x c e
      rw [z, qn] at eo
      cases eo
    · have eo := (Ic.pin p hp).1
      rw [z, qn] at eo
      cases eo
  · have q : h0 B sc s' [uI] [vI] t = some (.frz ob (.tup ((st k).map V.str))) := q
    have e : B t = some (.frz ob (.tup ((st k).map V.str))) := by
      unfold h0 at q
      rcases fz_cases q with ⟨o1, xs, e1, e2⟩ | ⟨o1, xs, e1, e2⟩ | ⟨o1, xs, e1, e2, _⟩
      · cases e1
        by_cases hb : t = sc.heap.objs.size
        · exfalso
          rw [hb, upd_same] at e2
          have e3 := Option.some.inj e2
          injection e3 with _ e4
          injection e4 with e5
          cases hI with
          | tup _ _ =>
            cases h : st k with
            | nil => rw [h] at e5; cases e5
            | cons x xs => rw [h] at e5; cases e5
        · rw [upd_ne hb] at e2
          exact e2
      · cases e1
      · cases e1
    exact ⟨_, B, H, rfl, I, frm_refl bh, .tup ⟨ob, e, hb⟩ (dpAll_str _)⟩
/-- the loop over trace(..) -/
theorem ps_forT {x y : Str} {i j : Nat} {p px py pos ypos pos' pos2 : Pos} {e : Expr} {es : List Expr} {kws : List Keyword} {ta tk : TA} (T : Tx X.K X.mg) (hr : Room 4 X.A) (hex : X.ex = []) (hc : X.A.handled = none)
    (hN : X.N.Nodup) (hi : X.N[i]? = some x) (hj : X.N[j]? = some y) (hx : X.env.scope.names.lookup x = some .local) (hy : X.env.scope.names.lookup y = some .local) (hg : Gl X "trace") (ha : PA X (e :: es) ta) (hkw : PK X kws tk)
    (hst : (backTo pos (starEach (e :: es) X.env)).any (·.1) = true) (hall : (backToKw pos (keywordEach kws X.env)).all (·.1.isSome) = true) (hks : (backToKw pos (keywordEach kws X.env)).filterMap (·.1) = [("reach" : Str)]) (he : starEach (e :: es) X.env = (false, eval e X.env) :: starEach es X.env)
    (hdb : (x == ("__debug__" : Str)) = false) (hsw : swapsWith (.Name x py) (some (.Name y ypos)) pos2.line X.env = pure false) (hfold : ∀ v, foldedSetIterable (.Call (.Name "trace" p) (e :: es) kws pos) X.env v = pure v) :
    PS X (.For (.Name x px) (.Call (.Name "trace" p) (e :: es) kws pos) [.Assign [.Name y ypos] (.Name x py) pos2] [] pos') (tForT X.K i j ta tk) := by
  refine ⟨fun pins s σ H D I h => ?_⟩
  refine wpAny_For ?_ hfold
  refine wpAny_Call_Name_kw (ld_glob I hg T.f54.g ?_ (by decide))
  refine ks_callK (P := fun h => X.K.In h) hst (PySem.W.keeps_K T.f54.F.kp) (PyProof.Rows.evalArgs_kw2 hall (wpAny_mono (ha.run pos pins s σ H _ I h) (fun us s1 ⟨vs, H1, I1, rv, q⟩ => wpAny_mono (hkw.run pos pins s1 σ H1 _ I1 q) (fun ws s2 ⟨zs, H2, I2, rz, q2⟩ => ⟨I2.kIn, ?_⟩) fun _ _ z => z) fun _ _ z => z) he)
  obtain ⟨B, S, Lx, r, bh, ⟨vS, vI, rfl, rfl, dS, dI', hv, hl⟩, hq⟩ := q2
  obtain ⟨uS, uI, rfl, rS, rI⟩ : ∃ uS uI, us = [uS, uI] ∧ RelV vS uS ∧ RelV vI uI := by
    cases rv with
    | cons p q =>
      cases q with
      | cons p2 q2 => cases q2; exact ⟨_, _, rfl, p, p2⟩
  obtain ⟨uR, rfl, rR⟩ : ∃ uR, ws = [uR] ∧ RelV (.int (r : Nat)) uR := by
    cases rz with
    | cons p q => cases q; exact ⟨_, rfl, p⟩
  rw [hks]
  obtain ⟨oc, od, kV, doc, pm, an, cdv, ct, osl, efd, lk, hcd⟩ := T.f54.F.ex
  rw [efd] at lk
  refine wpAny_call (made I2 lk hcd hr.depth rfl rfl rfl par54 (bind54 kV doc pm an cdv ct uS uI uR) (by show 1 ≤ sizeLine; decide) fun s3 a g m => ?_)
  have I3 : Inv X pins σ H2 s3 := I2.call' (ch := []) m.os (Un.kept m.ext) (I2.hok.kept m.ext) m.bare fun b hb => by cases hb
  refine wpAny_pyIter_gen m.gen ?_
  have hla := m.la
  have lF := I2.lt
  have gat : Gat (G54 X T.f54.a cdv X.A.in1 (a + 1) [X.env.locals] s2 (h0 B s2 s3 [uI] [vI])) (stA S Lx) Lx.length a g (Lx.length + 1) s3 := by
    refine gat_first T ⟨hc, ?_, ?_⟩ I2.ok.frames I2 bh m rS rI rR dS dI' hv hl (Nat.succ_lt_succ hla) (fun u hu => ?_) (fun hm => ?_) m.go m.bare rfl (fun b o _ e => e) I3.env0.funs (fun u hu => ?_) m.lim
    · have := hr.dp
      show X.A.depth + 3 * 3 + 5 < _
      omega
    · have := hr.un
      show X.A.units + 1 + 16 * 3 + 200 < _
      omega
    · rw [List.mem_singleton.mp hu]
      refine ⟨I2.free, Nat.ne_of_lt lF, ?_, Nat.ne_of_lt (Nat.lt_succ_of_lt lF), Nat.lt_trans (Nat.lt_trans (Nat.lt_succ_of_lt lF) hla) (Nat.lt_succ_self _)⟩
      cases eb : X.base.get? X.env.locals with
      | none => rfl
      | some o => exact absurd (Nat.lt_of_lt_of_le (Heap.lt_size eb) (Nat.le_trans I2.ok.bsz I2.ok.above)) (Nat.lt_irrefl _)
    · have := List.mem_singleton.mp hm
      rw [this] at hla
      exact absurd hla (Nat.lt_asymm (Nat.lt_succ_of_lt lF))
    · rw [List.mem_singleton.mp hu]
      exact inv_ue I3
  have bl : Below X pins H2 s2 (s2.heap.objs.size + 1) (a + 1) := below_of I2 (Nat.le_succ _) (Nat.lt_succ_of_lt hla)
  refine for_gen rfl hN hi hj hx hy hc hr.depth bl ⟨Nat.lt_succ_self _, hla⟩ I3 gat (fun b hb => ?_) (fun b hb => ?_) hdb hsw fun s5 t I5 af => ?_
  · obtain ⟨_, o, ho, _⟩ := I2.env0.funs.mem hb
    exact ⟨o, ho⟩
  · cases q : h0 B s2 s3 [uI] [vI] b with
    | none => rfl
    | some u =>
      exfalso
      have := fz_some (show h0 B s2 s3 [uI] [vI] b ≠ none by rw [q]; simp)
      rw [upd_ne (Nat.ne_of_lt (inv_frl I2 hb))] at this
      obtain ⟨w', ew⟩ := Option.ne_none_iff_exists'.mp this
      have := bh b w' ew
      rw [I2.stkFree b hb] at this
      cases this
  · obtain ⟨v, B', H', rfl, I6, fr, dv⟩ := take_last (cd := cdv) hex I2 bh dI' I5 af
    exact ⟨_, H', I6, hq _ B' H' fr dv⟩
end
end De
end
section
set_option Elab.async false
set_option linter.all false
set_option maxRecDepth 100000
set_option maxHeartbeats 4000000
/-! machine.py: run -/
namespace De
open PySem L2 PySem.Spec PyProof.Rows GenW StX
/-- a def that is called with n values by place and the keywords ks -/
def FnK (P : Program) (w : World) (K : PySem.W.Frag) (mg : Str → Option Value) (base : Heap) (CX : CXT) (k : Nat) (f : Addr) (n : Nat) (ks : List Str) (sp : Sp) : Prop :=
  ∀ (A : Around) (outer : List Env) (s : Shared) (H : Hp) (us ws : List Value) (vs zs : List V) (Q : VK) (E : XK), Room k A → Env0 P w K mg base A outer s H → Vals vs us → Vals zs ws → vs.length = n → zs.length = ks.length → sp (vs ++ zs) H Q E →
    codeAny (model P w) A (.call (.ref f) ⟨us, ks.zip ws⟩) (CR CX outer P w H s Q E) s
section
variable {X : Cx} {CX : CXT} {k n : Nat} {f : Addr} {ks : List Str} {sp : Sp} {E : XK} {x : Str} {p pos : Pos} {e : Expr} {es : List Expr} {kws : List Keyword} {t tk : TA}
theorem pe_callV (F : FnK X.prog X.w X.K X.mg X.base CX k f n ks sp) (hr : Room k X.A) (hg : Gl X x) (hm : X.mg x = some (.ref f)) (hk : PySem.W.keepIn X.K (.ref f) = true) (hx : Passes CX X E)
    (ha : PA X (e :: es) t) (hkw : PK X kws tk) (hall : (backToKw pos (keywordEach kws X.env)).all (·.1.isSome) = true := by rfl) (hks : (backToKw pos (keywordEach kws X.env)).filterMap (·.1) = ks := by rfl)
    (hdb : (x == ("__debug__" : Str)) = false := by decide) (he : starEach (e :: es) X.env = (false, eval e X.env) :: starEach es X.env := by rfl)
    (hpl : ((backTo pos (starEach (e :: es) X.env)).any (·.1) || (backToKw pos (keywordEach kws X.env)).any (·.1.isNone)) = false := by rfl) :
    PE X (.Call (.Name x p) (e :: es) kws pos) (L2.tCallN n ks.length sp (fun vs zs => vs ++ zs) E t tk) := by
  refine ⟨fun pins s σ H Q I h => ?_⟩
  refine wpAny_Call_Name_kw (ld_glob I hg hm ?_ hdb)
  refine PySem.W.callWith_KW (h₀ := X.base) I.ok.mod.kin hk hall (thn (ha.run pos pins s σ H _ I h) fun us s1 ⟨vs, H1, I1, r, q⟩ => ?_) hpl he
  refine thn (hkw.run pos pins s1 σ H1 _ I1 q) fun ws s2 ⟨zs, H2, I2, rz, l1, l2, q2⟩ => ⟨I2.kIn, ?_⟩
  rw [hks]
  refine wpAny_call (codeAny_mono (F X.A X.stack s2 H2 us ws vs zs Q E hr I2.env0 r rz l1 l2 q2) fun r s' hq => ?_)
  cases r with
  | error e => exact hx pins σ H2 s2 e s' I2 hq
  | ok fl =>
    cases fl with
    | ret u => exact I2.after hq
    | next => exact False.elim hq
    | brk => exact False.elim hq
    | cont => exact False.elim hq
end
section
variable {K : PySem.W.Frag} {g : Gr} {δ : List Sl} {μ : Mus} {F : AE} {ta tk : TA}
theorem go_forTr {i j : Nat} (h : EvA K g δ μ ta fun ws μ1 => EvA K g δ μ1 tk fun us μ2 => ∃ S Lx r, ws = [.da (tS S), .da (.tuple (Lx.map insD))] ∧ us = [dI (r : Nat)] ∧ InsAll r S Lx ∧ Lx.length < 70000 ∧ F.nx ((δ.set i (.da (tS (stA S Lx Lx.length)))).set j (.da (tS (stA S Lx Lx.length)))) μ2) :
    Go K g δ μ (tForT K i j ta tk) F := fun σ H B c D fi =>
  h σ H B c _ fun ws μ1 vs H1 B1 h1 c1 s1 r1 => h1 σ H1 B1 c1 _ fun us μ2 zs H2 B2 ⟨S, Lx, r, e1, e2, hv, hl, hk⟩ c2 s2 r2 => by
    subst e1 e2
    have r1' := rlAll_same s2 r1
    cases r1' with
    | cons a1 a2 =>
      cases a2 with
      | cons b1 b2 =>
        cases b2
        cases r2 with
        | cons d1 d2 =>
          cases d2
          cases dp_int d1
          refine ⟨B2, S, Lx, r, c2.bh, ⟨_, _, rfl, rfl, a1, b1, hv, hl⟩, fun v B' H' fr dv => ?_⟩
          obtain ⟨c3, _⟩ := c2.called (js := []) (μf := []) (μf' := []) rfl List.nodup_nil fr (fun _ z => nomatch z) List.nodup_nil
          have e : put μ2 [] [] = μ2 := List.append_nil μ2
          rw [e] at c3
          exact fi.nx _ _ _ _ _ hk ((c3.store (i := i) (w := .da (tS (stA S Lx Lx.length))) dv).store (i := j) (w := .da (tS (stA S Lx Lx.length))) dv) ((s1.trans s2).trans fr.bb)
end
local macro_rules | `(tactic| walk_at "de") => `(tactic| first
  | with_reducible refine go_seq ?_
  | with_reducible refine go_set ?_
  | with_reducible refine go_ret ?_
  | with_reducible refine go_if ?_
  | with_reducible refine go_next ?_
  | with_reducible refine go_drop ?_
  | ((with_reducible apply ev_da); exact rfl)
  | ((with_reducible apply ev_va); exact rfl)
  | with_reducible refine ev_c ?_
  | with_reducible refine ev_op ?_
  | with_reducible refine ev_un ?_
  | with_reducible refine ea_nil ?_
  | with_reducible refine ea_cons ?_
  | with_reducible refine ev_sortset ?_
  | ((with_reducible apply ev_cells); (focus assumption); (focus assumption))
  | ((with_reducible apply ev_reach); (focus assumption); (focus assumption))
  | ((with_reducible apply ev_made); (focus assumption); (focus assumption))
  | with_reducible refine ev_height ?_
  | ((with_reducible apply ev_methS); (focus (decide +kernel)); (focus (decide +kernel)); (focus (decide +kernel)))
  | with_reducible refine ev_callS ?_
  | with_reducible refine ev_count ?_
  | with_reducible refine ev_tcount ?_
  | with_reducible refine oc_len_c ?_
  | with_reducible refine ev_cb ?_
  | with_reducible refine eb_test ?_
  | with_reducible refine eb_B ?_
  | with_reducible refine eb_and ?_
  | with_reducible refine eb_or ?_
  | with_reducible refine eb_not ?_
  | with_reducible refine ev_andV ?_
  | with_reducible refine ev_orV ?_
  | with_reducible refine ev_notV ?_
  | with_reducible refine ev_if ?_
  | with_reducible refine ev_sl ?_
  | with_reducible refine eo_no ?_
  | with_reducible refine eo_some ?_
  | with_reducible refine ev_tup' ?_
  | with_reducible refine ev_callX ?_
  | with_reducible refine ev_callP ?_
  | with_reducible refine ev_callNP ?_
  | with_reducible refine ev_call ?_
  | with_reducible refine ev_callN ?_
  | with_reducible refine ev_chain ?_
  | with_reducible refine o_I0 ?_
  | with_reducible refine o_eqI ?_
  | with_reducible refine o_neI ?_
  | with_reducible refine o_eqS ?_
  | with_reducible refine o_neS ?_
  | with_reducible refine o_isN ?_
  | with_reducible refine o_notN ?_
  | with_reducible refine o_ltS ?_
  | with_reducible refine o_U ?_
  | with_reducible refine oc_len_tS ?_
  | with_reducible refine oc_len_lS ?_
  | with_reducible refine oc_len_t ?_
  | with_reducible refine oc_len_l ?_
  | with_reducible refine o_ix0 ?_
  | with_reducible refine o_ix1 ?_
  | with_reducible refine ev_dnew ?_
  | with_reducible refine oc_isiT ?_
  | with_reducible refine oc_isiTL ?_
  | with_reducible refine oc_isiI ?_
  | with_reducible refine oc_isiIB ?_
  | with_reducible refine oc_isiS ?_
  | with_reducible refine oc_min2 ?_
  | with_reducible refine oc_max2 ?_
  | with_reducible refine oc_abs ?_
  | with_reducible refine oc_tup_lS ?_
  | with_reducible refine oc_tup_l ?_
  | with_reducible refine o_inF ?_
  | with_reducible refine o_inT ?_
  | with_reducible refine o_inLF ?_
  | with_reducible refine o_inLT ?_
  | with_reducible refine eb_yes ?_
  | (refine Exists.intro _ (Exists.intro _ (Exists.intro _ (Exists.intro _ (Exists.intro _ (Exists.intro _ (Exists.intro _ (Exists.intro _ (And.intro rfl (And.intro rfl ?_))))))))))
  | (refine Exists.intro _ (And.intro (show dats _ = some _ from rfl) (And.intro (show Nat.ble _ 60 = true from rfl) ?_)))
  | with_reducible refine Exists.intro _ (And.intro rfl ?_))
local macro_rules | `(tactic| walk_at "cx") => `(tactic| try simp only [cx_K, cx_K'])
local macro_rules | `(tactic| walk_at "go") => `(tactic| repeat walk_at "de")

abbrev N55 : List Str := ["stack", "reach", "parts", "now"]
abbrev P55 : List Str := ["stack", "reach", "parts"]
theorem sc55' : FnScope N55 P55 (defScope (topS 55)) := ⟨rfl, rfl, rfl, by decide +kernel, rfl, by decide +kernel, by decide +kernel⟩
theorem bind55 (kV doc pm : Value) (an : Option Addr) (cdv ct : Value) (S I r : Value) : bindArgs (PySem.W.fnOf "run" "run" (defArgs (topS 55)) (defBody (topS 55)) (defScope (topS 55)) .none kV doc pm an cdv ct) ⟨[S, I], [(("reach" : Str), r)]⟩ = (newTuple [I] >>= fun t => pure (P55.zip [S, r, t])) := by rfl
def D55 (ws : List Sl) (o : Sl) : Prop := ∃ S Lx r, ws = [.da (tS S), .da (.tuple (Lx.map insD)), dI (r : Nat)] ∧ InsAll r S Lx ∧ Lx.length < 70000 ∧ o = .da (tS (stA S Lx Lx.length))
section
variable {P : Program} {w : World} {K : PySem.W.Frag} {mg : Str → Option Value} {base : Heap}
/-- a def f(a, *v, k=..) called f(a, b, k=c): v is a new tuple of one -/
theorem star1 {x qual : Str} {st : Stmt} {f : Addr} {fd : FuncData} {N ps : List Str} {n : Nat} {ks : Str} {D : List Sl → Sl → Prop} (F : Fun K x qual st f fd) (Sc : FnScope N ps (defScope st)) (lps : ps.length = 3)
    (hb : ∀ (kV doc pm : Value) (an : Option Addr) (cdv ct : Value) (S I r : Value), bindArgs (PySem.W.fnOf x qual (defArgs st) (defBody st) (defScope st) .none kV doc pm an cdv ct) ⟨[S, I], [(ks, r)]⟩ = (newTuple [I] >>= fun t => pure (ps.zip [S, r, t])))
    (len : ∀ ws o, D ws o → ∃ a d b, ws = [a, .da d, b])
    (hbody : ∀ (cdv : Value) (A : Around) (outer : List Env) (s : Shared) (H : Hp) (E : XK), Room n (A.deeper (envOfC qual (defScope st) s.heap.objs.size f cdv)) →
      ∃ t, PSs (cxOf CX0 P w K mg base N qual (defScope st) f cdv A outer s H E).nox (defBody st) t ∧ ∀ g a d b o, g.ms = [] → D [a, .da d, b] o → Go K g (slots0 N [a, b, .da (.tuple [d])]) [] t { nx := fun _ _ => o = dN, rt := fun w _ => w = o }) : FnK P w K mg base CX0 (n + 1) f 2 [ks] (spG K (pu D)) := by
  intro A outer s H us ws vs zs Q E hr e0 rv rz l1 l2 hsp
  obtain ⟨B, wl, μ, hs, r, hm, hnd, kk, ⟨rfl, o, hD, hko⟩, hk⟩ := hsp
  obtain ⟨a, d, b, rfl⟩ := len _ _ hD
  obtain ⟨v1, v2, rfl⟩ : ∃ v1 v2, vs = [v1, v2] := by
    match vs, l1 with
    | [v1, v2], _ => exact ⟨v1, v2, rfl⟩
  obtain ⟨v3, rfl⟩ : ∃ v3, zs = [v3] := by
    match zs, l2 with
    | [v3], _ => exact ⟨v3, rfl⟩
  obtain ⟨u1, u2, rfl, hr1, hr2⟩ : ∃ u1 u2, us = [u1, u2] ∧ RelV v1 u1 ∧ RelV v2 u2 := by
    cases rv with
    | cons p q =>
      cases q with
      | cons p2 q2 => cases q2; exact ⟨_, _, rfl, p, p2⟩
  obtain ⟨u3, rfl, hr3⟩ : ∃ u3, ws = [u3] ∧ RelV v3 u3 := by
    cases rz with
    | cons p q => cases q; exact ⟨_, rfl, p⟩
  have r : RlAll K B [v1, v2, v3] [a, .da d, b] := r
  obtain ⟨ra, rd, rb⟩ : Rl K B v1 a ∧ Dp K B v2 d ∧ Rl K B v3 b := by
    cases r with
    | cons ra r =>
      cases r with
      | cons rd r =>
        cases r with
        | cons rb r => exact ⟨ra, rd, rb⟩
  obtain ⟨oc, od, kV, doc, pm, an, cdv, ct, osl, efd, lk, hcd⟩ := F.ex
  rw [efd] at lk
  have hn : H s.heap.objs.size = none := e0.hok.fresh (Nat.le_refl _)
  refine run_bnd (ps := ps) (k := n) lk hcd Sc hr e0 (G := fun xs H2 => ∃ p ob, Bare ob ∧ H p = none ∧ xs = [v1, v3, .ref p] ∧ H2 = upd H p (.frz ob (.tup [v2]))) (fun A' Ex Q' h => ?_) fun s2 H2 xs ⟨p, ob, hob, hp, ex, eH⟩ hr' => ?_
  · show wpAny _ _ (bindArgs _ ⟨[u1, u2], [(ks, u3)]⟩) _ _ _
    rw [hb]
    refine wpAny_bind (wpAny_newTuple (wpAny_pure ?_) (by show 1 ≤ sizeLine; decide))
    have new : ObjOk P w (upd H s.heap.objs.size (.frz ({ cls := .type "tuple", data := .seq [u2].toArray } : Obj) (.tup [v2]))) (s.heap.push ({ cls := .type "tuple", data := .seq [u2].toArray } : Obj)) s.heap.objs.size (.frz ({ cls := .type "tuple", data := .seq [u2].toArray } : Obj) (.tup [v2])) :=
      ⟨Heap.get?_push_size _ rfl, by show 1 ≤ sizeLine; decide, [u2], .cons hr2 .nil, ⟨_, Heap.get?_push_size _ rfl, rfl, _, rfl⟩⟩
    have un := un_laid (fs := frs outer) (s := s) (o := ({ cls := .type "tuple", data := .seq [u2].toArray } : Obj)) (u := .frz ({ cls := .type "tuple", data := .seq [u2].toArray } : Obj) (.tup [v2])) hn
    exact h _ _ [v1, v3, V.ref s.heap.objs.size] [u1, u3, Value.ref s.heap.objs.size] (env0_laid e0 new) un rfl (fun e s' z => z) (.cons hr1 (.cons hr3 (.cons rfl .nil))) lps.symm ⟨_, _, ⟨rfl, rfl⟩, hn, rfl, rfl⟩
  · subst ex eH
    obtain ⟨t, ht, hg⟩ := hbody cdv A outer s2 (upd H p (.frz ob (.tup [v2]))) E hr'
    refine ⟨t, ht.nox, ?_⟩
    have fr := frm_new (u := .frz ob (.tup [v2])) hs hp
    have hl : ([a, b, .da (.tuple [d])] : List Sl).length ≤ N.length := by
      have := congrArg List.length Sc.pre
      rw [List.length_take, lps] at this
      show 3 ≤ N.length
      omega
    have c := cta_start (g := ⟨upd H p (.frz ob (.tup [v2])), upd B p (.frz ob (.tup [v2])), []⟩) (μ := []) (N := N) (vs := [v1, v3, .ref p]) (ws := [a, b, .da (.tuple [d])]) rfl rfl rfl fr.bh (.cons (rl_same fr.bb ra) (.cons (rl_same fr.bb rb) (.cons (.tup ⟨ob, upd_same, hob⟩ (.cons (dp_same fr.bb rd) .nil)) .nil))) (fun _ z => nomatch z) List.nodup_nil hl
    refine hg ⟨_, _, []⟩ a d b o rfl hD _ _ _ c _ ⟨fun δ' μ' σ' H' B' h c' sm => ?_, fun w' μ' δ' σ' v H' B' h c' sm r' => ?_, fun _ _ _ _ _ h => h.elim, fun _ _ _ _ _ h => h.elim⟩
    · subst h
      have fr2 : Frm B H B' H' [] [] := ⟨fr.bb.trans sm, c'.bh, fun b' o' e' => (c'.bf b' o' (fr.kp b' o' e' (by simp))).trans (fr.bf b' o' e'), fun b' o' e' _ => c'.kp b' o' (fr.kp b' o' e' (by simp)) (by simp), fun b' o' e' => c'.th b' o' (fr.kp b' o' e' (by simp)), [], rfl, fun _ z => (by cases z)⟩
      exact hk _ [] hko .non B' H' fr2 Dp.non (fun _ z => nomatch z) List.nodup_nil
    · subst h
      have fr2 : Frm B H B' H' [] [] := ⟨fr.bb.trans sm, c'.bh, fun b' o' e' => (c'.bf b' o' (fr.kp b' o' e' (by simp))).trans (fr.bf b' o' e'), fun b' o' e' _ => c'.kp b' o' (fr.kp b' o' e' (by simp)) (by simp), fun b' o' e' => c'.th b' o' (fr.kp b' o' e' (by simp)), [], rfl, fun _ z => (by cases z)⟩
      exact hk _ [] hko v B' H' fr2 r' (fun _ z => nomatch z) List.nodup_nil
theorem ok55 (T : Tx K mg) : FnK P w K mg base CX0 6 T.f55.a 2 ["reach"] (spG K (pu D55)) := by
  refine star1 T.f55.F sc55' rfl bind55 (fun ws o h => by obtain ⟨S, Lx, r, rfl, _⟩ := h; exact ⟨_, _, _, rfl⟩) (fun cdv A outer s H E hr => ⟨_, pss_cons (ps_forT (i := 3) (j := 0) T (hr.mono (by decide)) rfl hr.hd sc55'.nd rfl rfl (by rfl) (by rfl) (by rfl) (pa_cons (pv 0) (pa_star (pv 2) pa_nil)) (pk_cons (pv 1) pk_nil) rfl rfl rfl rfl (by decide) rfl (fun v => rfl)) (pss_one (ps_ret (pv 0))), fun g a d b o eg h => ?_⟩)
  obtain ⟨S, Lx, r, e, hv, hl, rfl⟩ := h
  cases e
  refine go_seq (go_forTr ?_)
  walk_at "go"
  refine ea_star (K := K) ?_
  walk_at "go"
  refine ⟨S, Lx, r, rfl, rfl, hv, hl, ?_⟩
  walk_at "go"
  rfl
end
end De
end
section
set_option Elab.async false
set_option linter.all false
set_option maxRecDepth 100000
set_option maxHeartbeats 2000000
/-! y = [len(x) for x in g] -/
namespace De
open PySem L2 PySem.Spec PyProof.Rows GenW
section
variable {X : Cx} {pins : List (Addr × Obj)} {σ : L2.St} {H : Hp} {s : Shared} {A : Around}
/-- len(x) within the comprehension -/
theorem eval_len {C t : Addr} {scope : Scope} {x : Str} {p p2 pos : Pos} {ss : List Str} {m : Str → Option Value} {Q : Value → Shared → Prop} {E : Value → Shared → Prop} (hmod : Mod X.K X.mg X.base) (hbk : ∀ b o, X.base.get? b = some o → s.heap.get? b = some o) (hmg : X.mg "len" = none) (hgl : X.env.globals = mainGlobals) (hbt : X.env.builtins = builtinsNs)
    (hk : scope.kind = .function) (hx : scope.names.lookup x = some .local) (hl : scope.names.lookup ("len" : Str) = some .globalImplicit) (hn : s.heap.Ns C m) (hm : m x = some (.ref t)) {its : List Value} (ht : IsTup s.heap t its.toArray) (hz : its.length < 100000)
    (hdb : (x == ("__debug__" : Str)) = false) (hq : ∀ tk tk', Q (.int its.length tk) { s with toks := tk' }) :
    wpAny (model X.prog X.w) A (eval (.Call (.Name "len" p) [.Name x p2] [] pos) (compEnv scope C X.env)) Q E s := by
  refine wpAny_Call_Name_kw ?_
  obtain ⟨mb, h1, h2⟩ := hmod.blt
  refine Calls.Name_function_global hk hl (Calls.loadGlobal_builtin (by show s.heap.Ns X.env.globals _; rw [hgl]; exact hmod.glob.keeps hbk) hmg (by show s.heap.Ns X.env.builtins _; rw [hbt]; exact h1.keeps hbk) ((h2 _ (by decide)).trans (show bootBuiltins "len" = some (.builtin "len") by rfl)) ?_) (by decide)
  refine PyProof.Rows.callWith_builtin1 ?_ rfl rfl
  refine Calls.spliced_cons (wpAny_Name (wpAny_loadName_local (env := compEnv scope C X.env) hk hx hn hm ?_) hdb)
  refine Calls.spliced_nil ?_
  exact len_tuple ht (by simp only [List.size_toArray] <;> omega) (by rw [List.size_toArray]; exact hq _ _)
/-- an object of the caller's block turns -/
theorem Below.turned {L M C : Addr} {sc : Shared} {h' : Heap} {tk : Nat} (b : Below X pins H sc L M) (I : Inv X pins σ H s) (hC : L < C) (hp : ∀ p ∈ X.pn ++ pins, p.1 ≠ C) (k : ∀ q o, q ≠ C → s.heap.get? q = some o → h'.get? q = some o) : Inv X pins σ H { s with heap := h', toks := tk } := by
  refine I.turned (it := C) k ?_ (Nat.ne_of_gt (Nat.lt_trans b.loc hC)) (.inr (Nat.le_of_lt (Nat.lt_of_le_of_lt b.s0 hC))) (fun x c e => Nat.ne_of_lt (Nat.lt_trans (b.cel x c e) hC)) hp
  cases q : H C with
  | none => rfl
  | some u => exact absurd (b.trk C (by rw [q]; simp)) (Nat.lt_asymm hC)
variable {sc : Shared} {G : GP} {st : Nat → List Str} {Nn a g : Nat}
abbrev lens (st : Nat → List Str) (n : Nat) : List V := (List.range n).map fun k => V.int ((st k).length : Nat)
theorem lens_succ {st : Nat → List Str} {n : Nat} : lens st (n + 1) = lens st n ++ [V.int ((st n).length : Nat)] := by
  unfold lens
  rw [List.range_succ, List.map_append]
  rfl
theorem lc_gen {x : Str} {p p2 px cpos pos : Pos} {iter : Expr} {scope : Scope} {M C D : Addr} {N : List Str} {qual : Str} {gscope : Scope} {f : Addr} {cd : Value} {H₀ : Hp} {R : Result → Shared → Prop} (hG : G = mkG X N qual gscope f cd X.A.in1 M [C, D] sc H₀)
    (hc : X.A.handled = none) (hd : X.A.depth < recursionLimit) (b : Below X pins H sc (sc.heap.objs.size + 1) M) (ha : a < M ∧ sc.heap.objs.size + 1 < a) (hD : a < D) (hDC : D < C) (hCM : C < M) (hpn : ∀ p ∈ X.pn ++ pins, p.1 ≠ C ∧ p.1 ≠ D)
    (hmg : X.mg "len" = none) (hk : scope.kind = .function) (hx : scope.names.lookup x = some .local) (hl : scope.names.lookup ("len" : Str) = some .globalImplicit) (hdb : (x == ("__debug__" : Str)) = false) (hNn : Nn < 90000) (hst : ∀ k, (st k).length < 90000)
    {s5 : Shared} (I : Inv X pins σ H s5) (gat : Gat G st Nn a g (Nn + 1) s5) {c0 : Nat} (h0 : s5.heap.get? D = some (lstObj #[] c0)) (hn0 : ∃ m, s5.heap.Ns C m)
    (hq : ∀ s' acc c m, Inv X pins σ H s' → s'.heap.get? D = some (lstObj acc c) → Vals (lens st (Nn + 1)) acc.toList → s'.heap.Ns C m → R (.ok .next) s') :
    codeAny (model X.prog X.w) X.A (.compLoop (.ListComp (.Call (.Name "len" p) [.Name x p2] [] cpos) [⟨.Name x px, iter, [], 0⟩] scope pos) 0 (.ref a) (.ref D) (compEnv scope C X.env)) R s5 := by
  have eP : G.P = X.prog := by rw [hG]; rfl
  have ew : G.w = X.w := by rw [hG]; rfl
  have eO : G.outer = X.stack := by rw [hG]; rfl
  have eL : G.L = sc.heap.objs.size + 1 := by rw [hG]; rfl
  have eM : G.M = M := by rw [hG]; rfl
  have eA : G.A = X.A.in1 := by rw [hG]; rfl
  have eU : G.U = [C, D] := by rw [hG]; rfl
  have eB : G.base = X.base := by rw [hG]; rfl
  have hLC : sc.heap.objs.size + 1 < C := Nat.lt_trans ha.2 (Nat.lt_trans hD hDC)
  have hLD : sc.heap.objs.size + 1 < D := Nat.lt_trans ha.2 hD
  refine codeAny_compLoop_list (fun n s => n ≤ Nn + 1 ∧ Inv X pins σ H s ∧ Gat G st Nn a g n s ∧ ∃ acc c, s.heap.get? D = some (lstObj acc c) ∧ Vals (lens st (Nn + 1 - n)) acc.toList ∧ ∃ m, s.heap.Ns C m) (fun n s1 ⟨hn, I1, gt, acc, c, hD1, hv1, m1, hN1⟩ => ?_) (Nn + 1) ⟨Nat.le_refl _, I, gat, #[], c0, h0, by rw [Nat.sub_self]; exact .nil, hn0⟩
  rw [← eP, ← ew]
  have mvD : ∀ {s2}, Mvd X.stack (sc.heap.objs.size + 1) M s1 s2 → s2.heap.get? D = some (lstObj acc c) := fun mv => mv.keep D _ hD1 (Nat.ne_of_gt hLD) (.inl (Nat.lt_trans hDC hCM)) (fun _ v q => by cases q) fun hm => absurd (b.frm D hm) (Nat.lt_asymm hLD)
  have mvC : ∀ {s2}, Mvd X.stack (sc.heap.objs.size + 1) M s1 s2 → s2.heap.Ns C m1 := fun {s2} mv => by
    obtain ⟨o, es, ep, ho, hd', q⟩ := hN1
    exact ⟨o, es, ep, mv.keep C _ ho (Nat.ne_of_gt hLC) (.inl hCM) (fun _ v q => by rw [hd'] at q; cases q) (fun hm => absurd (b.frm C hm) (Nat.lt_asymm hLC)), hd', q⟩
  refine gat_next eA hc hd gt (fun s2 mv => ?_) (fun n' k t ob s2 gs' en ek ht mv htl hct hb hgs hk' => ?_) fun s2 h' en mv hk' => ?_
  · have mv' : Mvd X.stack (sc.heap.objs.size + 1) M s1 s2 := by rw [← eL, ← eM, ← eO]; exact mv
    have I2 := b.mvd I1 mv'
    refine ⟨rfl, mv.bare, fun _ _ _ e => e, by rw [eB, eO]; exact I2.env0.funs, fun u hu => ?_⟩
    rw [eU] at hu
    rcases List.mem_cons.mp hu with z | z
    · obtain ⟨o, es, ep, ho, hd', _⟩ := mvC mv'
      exact ⟨o, by rw [z]; exact ho, fun v q => by rw [hd'] at q; cases q⟩
    · rw [List.mem_singleton.mp z]
      exact ⟨_, mvD mv', fun v q => by cases q⟩
  · have mv' : Mvd X.stack (sc.heap.objs.size + 1) M s1 s2 := by rw [← eL, ← eM, ← eO]; exact mv
    have I2 := b.mvd I1 mv'
    have hC2 := mvC mv'
    have hD2 := mvD mv'
    have hcls : ((compEnv scope C X.env).scope.kind == .class || ((compEnv scope C X.env).scope.kind == .module && (compEnv scope C X.env).locals != (compEnv scope C X.env).globals)) = false := by
      show (scope.kind == .class || (scope.kind == .module && _)) = false
      rw [hk]; rfl
    refine wpAny_assign_Name (wpAny_storeName_local (env := compEnv scope C X.env) hx hC2 (fun h1 hn1 sb1 => ?_) hcls)
    have IA := b.turned (C := C) (h' := h1) (tk := s2.toks + 1) (inv_regen I2 (gs := (s2.setGen g gs').gens) (allBare_setGen mv.bare hb)) hLC (fun p hp => (hpn p hp).1) (fun q o hq e => (sb1.2 q hq).trans e)
    obtain ⟨xs3, n3, hd3⟩ := tup_data ht
    obtain ⟨ht1, hbt, hz, its, hv, ot, hot, hct1, hct2⟩ := ht
    have htC : t ≠ C := fun z => by
      obtain ⟨o2, es, ep, ho2, hd2, _⟩ := hC2
      rw [z, ho2] at ht1
      cases ht1
      rw [hd3] at hd2
      cases hd2
    have hit : IsTup h1 t its.toArray := ⟨ot, (sb1.2 t htC).trans hot, hct1, hct2⟩
    have hlen : its.length = (st k).length := by
      have := hv.length
      rw [List.length_map] at this
      exact this.symm
    have hst' := hst k
    rw [eP, ew]
    refine eval_len (s := { s2.setGen g gs' with heap := h1, toks := s2.toks + 1 }) (C := C) (t := t) (ss := st k) IA.ok.mod IA.bk hmg IA.ok.glob IA.ok.blt hk hx hl hn1 (by simp) hit (by omega) hdb fun tk tk' => ?_
    have hDne : D ≠ C := Nat.ne_of_lt hDC
    have hDA : h1.PlainList D acc := ⟨c, (sb1.2 D hDne).trans hD2⟩
    have hacc : acc.size = Nn + 1 - n := by
      have e1 := hv1.length
      rw [List.length_map, List.length_range] at e1
      have e2 : acc.toList.length = acc.size := by simp
      omega
    have hsl : 100000 ≤ sizeLine := by decide
    refine wpAny_list_append_plain (s := { s2.setGen g gs' with heap := h1, toks := tk' }) hDA (fun h2 hl2 sb2 => ?_) (by omega)
    obtain ⟨c2, hl2⟩ := hl2
    have IB := b.turned (C := D) (h' := h2) (tk := tk') IA hLD (fun p hp => (hpn p hp).2) (fun q o hq e => (sb2.2 q hq).trans e)
    have nl : ∀ {q : Addr}, q ≠ C → q ≠ D → ∀ o, s2.heap.get? q = some o → h2.get? q = some o := fun {q} h3 h4 o e => (sb2.2 q h4).trans ((sb1.2 q h3).trans e)
    have hn2 := hn1.sameBut sb2 (Ne.symm hDne)
    have slp : Slp G s2 (({ s2.setGen g gs' with heap := h2, toks := tk' } : Shared).setGen g .running) := by
      refine ⟨rfl, allBare_setGen (s := { s2.setGen g gs' with heap := h2, toks := tk' }) (allBare_setGen mv.bare hb) rfl, fun q o hq' e => ?_, by rw [eB, eO]; exact IB.env0.funs, fun u hu => ?_⟩
      · rw [eU] at hq'
        exact nl (fun z => hq' (by rw [z]; simp)) (fun z => hq' (by rw [z]; simp)) o e
      · rw [eU] at hu
        rcases List.mem_cons.mp hu with z | z
        · obtain ⟨o, es, ep, ho, hd', _⟩ := hn2
          exact ⟨o, by rw [z]; exact ho, fun v q => by rw [hd'] at q; cases q⟩
        · rw [List.mem_singleton.mp z]
          exact ⟨_, hl2, fun v q => by cases q⟩
    refine ⟨n', by omega, by omega, IB, ⟨?_, IB.nolimit, gs', setGen_at hgs, hk' _ slp⟩, _, c2, hl2, ?_, _, hn2⟩
    · obtain ⟨o, nm, qn, ho, r1, r2, r3⟩ := gt.gen
      exact ⟨o, nm, qn, nl (Nat.ne_of_lt (Nat.lt_trans hD hDC)) (Nat.ne_of_lt hD) o (mv'.keep a o ho (Nat.ne_of_gt ha.2) (.inl ha.1) (fun _ v q => by rw [r2] at q; cases q) fun hm => absurd (b.frm a hm) (Nat.lt_asymm ha.2)), r1, r2, r3⟩
    · have e1 : Nn + 1 - n = k := by omega
      have e2 : Nn + 1 - n' = k + 1 := by omega
      rw [e2, lens_succ, Array.toList_push]
      rw [e1] at hv1
      exact hv1.append (.cons ⟨tk, by rw [hlen]⟩ .nil)
  · have mv' : Mvd X.stack (sc.heap.objs.size + 1) M s1 s2 := by rw [← eL, ← eM, ← eO]; exact mv
    have I2 := b.mvd I1 mv'
    subst en
    obtain ⟨o, es, ep, ho, hd', q⟩ := mvC mv'
    exact hq _ acc c m1 (inv_regen (I2.kept (t' := s2.toks) hk') (allBare_setGen mv.bare rfl)) (hk' _ _ (mvD mv')) hv1 ⟨o, es, ep, hk' _ _ ho, hd', q⟩
end
end De
end
section
set_option Elab.async false
set_option linter.all false
set_option maxRecDepth 100000
set_option maxHeartbeats 2000000
/-! heights = [len(now) for now in trace(stack, *parts, reach=reach)] -/
namespace De
open PySem L2 PySem.Spec PyProof.Rows GenW
section
variable {X : Cx} {pins : List (Addr × Obj)} {σ : L2.St} {H : Hp} {s : Shared}
/-- an object that stands untracked comes to be tracked -/
theorem inv_trackG {t : Addr} {u : HO} (I : Inv X pins σ H s) (new : ObjOk X.prog X.w (upd H t u) s.heap t u) (hn : H t = none) (h0 : X.s_0.heap.get? t = none) (hl : t ≠ X.env.locals) (hc : ∀ x c, X.env.cells.lookup x = some c → c ≠ t) (hp : ∀ p ∈ X.pn ++ pins, p.1 ≠ t) :
    Inv X pins σ (upd H t u) s := by
  have ne : ∀ {b v}, H b = some v → b ≠ t := fun {b v} e z => by rw [z, hn] at e; cases e
  refine ⟨I.ok, I.os, I.bare, ⟨I.base.keep, I.base.slot, fun b o e n hx => ?_, I.base.there, fun b xs e => ?_, fun b o u e => ?_, fun b ps e => ?_⟩, I.loc, I.cell, ?_, fun x c e => ?_, fun p hp' => ?_, fun b v e => ?_, I.len⟩
  · rw [upd_ne (fun z => by rw [z, h0] at e; cases e)]
    exact I.base.free b o e n hx
  · have q := I.base.tups b xs e
    rw [upd_ne (ne q)]; exact q
  · have q := I.base.frzs b o u e
    rw [upd_ne (ne q)]; exact q
  · obtain ⟨m, q⟩ := I.base.tbls b ps e
    exact ⟨m, by rw [upd_ne (ne q)]; exact q⟩
  · rw [upd_ne (Ne.symm hl)]; exact I.free
  · rw [upd_ne (hc x c e)]; exact I.freeC x c e
  · obtain ⟨e, n, r⟩ := I.pin p hp'
    exact ⟨e, by rw [upd_ne (hp p hp')]; exact n, r⟩
  · by_cases hb : b = t
    · subst hb
      rw [upd_same] at e
      cases e
      exact new
    · rw [upd_ne hb] at e
      exact (I.hok b v e).stay (fun c v _ q => q) (fun c q => by rw [upd_ne (ne q)]; exact q) fun c xs q => by rw [upd_ne (ne q)]; exact q
def tLcT (K : PySem.W.Frag) (j : Nat) (ta tk : TA) : TS := fun D σ H => ta σ H fun vs H1 => tk σ H1 fun zs H2 => ∃ B S Lx r, Same B H2 ∧ TrIn K B vs zs S Lx r ∧ (∀ k, (stA S Lx k).length < 90000) ∧
  ∀ p, H2 p = none → D.nx (σ.set j (some (.ref p))) (upd H2 p (.lst (lens (stA S Lx) (Lx.length + 1))))
theorem ps_lcT {x y : Str} {j : Nat} {p px py pl pl2 lpos cpos pos spos : Pos} {scope : Scope} {e : Expr} {es : List Expr} {kws : List Keyword} {ta tk : TA} (T : Tx X.K X.mg) (hr : Room 4 X.A) (hc : X.A.handled = none)
    (hN : X.N.Nodup) (hj : X.N[j]? = some y) (hy : X.env.scope.names.lookup y = some .local) (hg : Gl X "trace") (ha : PA X (e :: es) ta) (hkw : PK X kws tk)
    (hst : (backTo cpos (starEach (e :: es) X.env)).any (·.1) = true) (hall : (backToKw cpos (keywordEach kws X.env)).all (·.1.isSome) = true) (hks : (backToKw cpos (keywordEach kws X.env)).filterMap (·.1) = [("reach" : Str)]) (he : starEach (e :: es) X.env = (false, eval e X.env) :: starEach es X.env)
    (hdb : (x == ("__debug__" : Str)) = false) (hfold : ∀ v, foldedSetIterable (.Call (.Name "trace" p) (e :: es) kws cpos) X.env v = pure v)
    (hsw : swapsWith (.ListComp (.Call (.Name "len" pl) [.Name x pl2] [] lpos) [⟨.Name x px, .Call (.Name "trace" p) (e :: es) kws cpos, [], 0⟩] scope pos) (some (.Name y py)) spos.line X.env = pure true)
    (hfree : ∀ z ∈ scope.names, z.2 ≠ .free) (hcell : ∀ z ∈ scope.names, z.2 ≠ .cell) (hkind : scope.kind = .function) (hnames : ∀ z ∈ scope.names, z.2 = .local → scope.names.lookup z.1 = some .local) (hx : scope.names.lookup x = some .local) (hl : scope.names.lookup ("len" : Str) = some .globalImplicit) :
    PS X (.Assign [.Name y py] (.ListComp (.Call (.Name "len" pl) [.Name x pl2] [] lpos) [⟨.Name x px, .Call (.Name "trace" p) (e :: es) kws cpos, [], 0⟩] scope pos) spos) (tLcT X.K j ta tk) := by
  refine ⟨fun pins s σ H D I h => ?_⟩
  rw [exec_Assign_Name_used _ _ _ _ hsw]
  refine wpAny_bind (wpAny_standAt (wpAny_bind ?_))
  show wpAny _ X.A (do let _ ← comprehension (.ListComp (.Call (.Name "len" pl) [.Name x pl2] [] lpos) [⟨.Name x px, .Call (.Name "trace" p) (e :: es) kws cpos, [], 0⟩] scope pos) scope X.env (firstIterPos [⟨.Name x px, .Call (.Name "trace" p) (e :: es) kws cpos, [], 0⟩] pos) (newList []) false (eval (.Call (.Name "trace" p) (e :: es) kws cpos) X.env) (some (assign (.Name y py) X.env))) _ _ s
  refine wpAny_bind (wpAny_mono (wpAny_comprehension_use (Q := fun _ s' => SP X pins D .next s') rfl hfold hfree hkind hnames ?_) (fun _ s' hq => wpAny_pure (wpAny_pure hq)) fun _ _ e => e)
  refine wpAny_Call_Name_kw (ld_glob I hg T.f54.g ?_ (by decide))
  refine ks_callK (P := fun h => X.K.In h) hst (PySem.W.keeps_K T.f54.F.kp) (PyProof.Rows.evalArgs_kw2 hall (wpAny_mono (ha.run cpos pins s σ H _ I h) (fun us s1 ⟨vs, H1, I1, rv, q⟩ => wpAny_mono (hkw.run cpos pins s1 σ H1 _ I1 q) (fun ws s2 ⟨zs, H2, I2, rz, q2⟩ => ⟨I2.kIn, ?_⟩) fun _ _ z => z) fun _ _ z => z) he)
  obtain ⟨B, S, Lx, r, bh, ⟨vS, vI, rfl, rfl, dS, dI', hv, hl70⟩, hlen, hq⟩ := q2
  obtain ⟨uS, uI, rfl, rS, rI⟩ : ∃ uS uI, us = [uS, uI] ∧ RelV vS uS ∧ RelV vI uI := by
    cases rv with
    | cons p q =>
      cases q with
      | cons p2 q2 => cases q2; exact ⟨_, _, rfl, p, p2⟩
  obtain ⟨uR, rfl, rR⟩ : ∃ uR, ws = [uR] ∧ RelV (.int (r : Nat)) uR := by
    cases rz with
    | cons p q => cases q; exact ⟨_, rfl, p⟩
  rw [hks]
  obtain ⟨oc, od, kV, doc, pm, an, cdv, ct, osl, efd, lk, hcd⟩ := T.f54.F.ex
  rw [efd] at lk
  refine wpAny_call (made I2 lk hcd hr.depth rfl rfl rfl par54 (bind54 kV doc pm an cdv ct uS uI uR) (by show 1 ≤ sizeLine; decide) fun s3 a g m => ?_)
  have I3 : Inv X pins σ H2 s3 := I2.call' (ch := []) m.os (Un.kept m.ext) (I2.hok.kept m.ext) m.bare fun b hb => by cases hb
  refine wpAny_pyIter_gen m.gen ?_
  have hla := m.la
  have lF := I2.lt
  refine wpAny_newObj_type (wpAny_newFunctionEnv hcell (by intro y hy; simp at hy) (fun h₁ hns₁ hsb₁ => ?_) hkind)
  dsimp only at hns₁ hsb₁ ⊢
  generalize hHp : s3.heap.push { cls := .type "list", dict := none, data := .seq ([] : List Value).toArray } = Hp1 at hns₁ hsb₁ ⊢
  have hC : Hp1.objs.size = s3.heap.objs.size + 1 := by rw [← hHp, Heap.size_push]
  have hDs : s3.heap.objs.size = a + 1 := m.sz
  have hDC : s3.heap.objs.size ≠ Hp1.objs.size := by rw [hC]; exact Nat.ne_of_lt (Nat.lt_succ_self _)
  have old : ∀ b o, s3.heap.get? b = some o → h₁.get? b = some o := fun b o e => hsb₁.extBut b o (by rw [hC]; exact Nat.ne_of_lt (Nat.lt_succ_of_lt (Heap.lt_size e))) (Heap.get?_push_of_some _ (hHp ▸ Heap.get?_push_of_some _ e))
  have hD5 : h₁.get? s3.heap.objs.size = some (lstObj #[] 0) := hsb₁.extBut _ _ hDC (Heap.get?_push_of_some _ (hHp ▸ Heap.get?_push_size _ rfl))
  have I5 : Inv X pins σ H2 { s3 with heap := h₁, toks := s3.toks + ([] : List (Str × Value)).length } := I3.kept old
  have hCd : ∃ o, h₁.get? Hp1.objs.size = some o ∧ ∀ v, o.data ≠ .cell v := by
    obtain ⟨o, es, ep, ho, hd', _⟩ := hns₁
    exact ⟨o, ho, fun v q => by rw [hd'] at q; cases q⟩
  have l1 : s2.heap.objs.size + 1 < s3.heap.objs.size := by rw [hDs]; exact Nat.lt_succ_of_lt hla
  have l2 : s2.heap.objs.size + 1 < Hp1.objs.size := by rw [hC]; exact Nat.lt_succ_of_lt l1
  have big : ∀ u, s2.heap.objs.size + 1 < u → H2 u = none ∧ u ≠ s2.heap.objs.size ∧ X.base.get? u = none ∧ u ≠ s2.heap.objs.size + 1 := fun u hu => by
    refine ⟨I2.hok.fresh (Nat.le_of_lt (Nat.lt_of_succ_lt hu)), Nat.ne_of_gt (Nat.lt_of_succ_lt hu), ?_, Nat.ne_of_gt hu⟩
    cases eb : X.base.get? u with
    | none => rfl
    | some o => exact absurd (Nat.lt_of_lt_of_le (Heap.lt_size eb) (Nat.le_trans I2.env0.bsz (Nat.le_of_lt (Nat.lt_of_succ_lt hu)))) (Nat.lt_irrefl _)
  have gat : Gat (G54 X T.f54.a cdv X.A.in1 (Hp1.objs.size + 1) [Hp1.objs.size, s3.heap.objs.size] s2 (h0 B s2 s3 [uI] [vI])) (stA S Lx) Lx.length a g (Lx.length + 1) { s3 with heap := h₁, toks := s3.toks + ([] : List (Str × Value)).length } := by
    refine gat_first T ⟨hc, ?_, ?_⟩ I2.ok.frames I2 bh m rS rI rR dS dI' hv hl70 (Nat.succ_lt_succ l2) (fun u hu => ?_) (fun hm => ?_) hCd m.bare rfl (fun b o _ e => old b o e) I5.env0.funs (fun u hu => ?_) I5.nolimit
    · have := hr.dp
      show X.A.depth + 3 * 3 + 5 < _
      omega
    · have := hr.un
      show X.A.units + 1 + 16 * 3 + 200 < _
      omega
    · rcases List.mem_cons.mp hu with z | z
      · rw [z]
        obtain ⟨q1, q2, q3, q4⟩ := big _ l2
        exact ⟨q1, q2, q3, q4, Nat.lt_succ_self _⟩
      · rw [List.mem_singleton.mp z]
        obtain ⟨q1, q2, q3, q4⟩ := big _ l1
        exact ⟨q1, q2, q3, q4, by rw [hC]; exact Nat.lt_succ_of_lt (Nat.lt_succ_self _)⟩
    · rcases List.mem_cons.mp hm with z | z
      · rw [hC, hDs] at z
        exact absurd z (Nat.ne_of_lt (Nat.lt_succ_of_lt (Nat.lt_succ_self _)))
      · have z := List.mem_singleton.mp z
        rw [hDs] at z
        exact absurd z (Nat.ne_of_lt (Nat.lt_succ_self _))
    · rcases List.mem_cons.mp hu with z | z
      · rw [z]; exact hCd
      · rw [List.mem_singleton.mp z]
        exact ⟨_, hD5, fun v q => by cases q⟩
  have bl : Below X pins H2 s2 (s2.heap.objs.size + 1) (Hp1.objs.size + 1) := below_of I2 (Nat.le_succ _) (Nat.lt_succ_of_lt l2)
  have hpn : ∀ q ∈ X.pn ++ pins, q.1 ≠ Hp1.objs.size ∧ q.1 ≠ s3.heap.objs.size := fun q hq' => by
    have := Heap.lt_size (I2.pin q hq').1
    exact ⟨Nat.ne_of_lt (Nat.lt_trans this (Nat.lt_of_succ_lt l2)), Nat.ne_of_lt (Nat.lt_trans this (Nat.lt_of_succ_lt l1))⟩
  have loop : codeAny (model X.prog X.w) X.A (.compLoop (.ListComp (.Call (.Name "len" pl) [.Name x pl2] [] lpos) [⟨.Name x px, .Call (.Name "trace" p) (e :: es) kws cpos, [], 0⟩] scope pos) 0 (.ref a) (.ref s3.heap.objs.size) (compEnv scope Hp1.objs.size X.env)) (fun r s' => match r with
          | .ok _ => wpAny (model X.prog X.w) X.A (assign (.Name y py) X.env (.ref s3.heap.objs.size)) (fun _ s'' => ∃ m, s''.heap.Ns Hp1.objs.size m ∧ ∀ h', Heap.SameBut Hp1.objs.size s''.heap h' → SP X pins D .next { s'' with heap := h' }) X.xe s'
          | .error x => ∃ m, s'.heap.Ns Hp1.objs.size m ∧ ∀ h', Heap.SameBut Hp1.objs.size s'.heap h' → wpAny (model X.prog X.w) X.A (PySem.passOn "comprehension.variables-let-go" x (compEnv scope Hp1.objs.size X.env) : Sem Value) (fun _ s' => SP X pins D .next s') X.xe { s' with heap := h' })
        { s3 with heap := h₁, toks := s3.toks + ([] : List (Str × Value)).length } := by
    refine lc_gen rfl hc hr.depth bl ⟨by rw [hC, hDs]; exact Nat.lt_succ_of_lt (Nat.lt_succ_of_lt (Nat.lt_succ_self _)), hla⟩ (by rw [hDs]; exact Nat.lt_succ_self _) (by rw [hC]; exact Nat.lt_succ_self _) (Nat.lt_succ_self _) hpn T.z_len hkind hx hl hdb (by omega) hlen I5 gat hD5 ⟨_, hns₁⟩ fun s' acc c m' I' hD' hv' hN' => ?_
    have hnD : H2 s3.heap.objs.size = none := (big _ l1).1
    have h0n : X.s_0.heap.get? s3.heap.objs.size = none := by
      cases e0 : X.s_0.heap.get? s3.heap.objs.size with
      | none => rfl
      | some o => exact absurd (Nat.lt_of_lt_of_le (Heap.lt_size e0) I3.sz) (Nat.lt_irrefl _)
    have hzl : (lens (stA S Lx) (Lx.length + 1)).length ≤ sizeLine := by
      have hsl : 100000 ≤ sizeLine := by decide
      rw [List.length_map, List.length_range]
      omega
    have I6 := inv_trackG (u := .lst (lens (stA S Lx) (Lx.length + 1))) I' ⟨hzl, acc.toList, c, hv', by rw [hD']⟩ hnD h0n (Nat.ne_of_gt (Nat.lt_trans bl.loc l1)) (fun x c e => Nat.ne_of_lt (Nat.lt_trans (bl.cel x c e) l1)) fun q hq' => (hpn q hq').2
    refine wpAny_assign_Name (store_loc I6 hN hj hy (v := .ref s3.heap.objs.size) rfl fun h6 tk6 sb6 I7 => ?_)
    have hlC : Hp1.objs.size ≠ X.env.locals := Nat.ne_of_gt (Nat.lt_trans bl.loc l2)
    refine ⟨m', hN'.sameBut sb6 hlC, fun h7 sb7 => ?_⟩
    refine ⟨_, _, I7.turned (it := Hp1.objs.size) (t' := tk6) (fun b o hb e => (sb7.2 b hb).trans e) ?_ hlC (.inr (Nat.le_trans bl.s0 (Nat.le_of_lt l2))) (fun x c e => Nat.ne_of_lt (Nat.lt_trans (bl.cel x c e) l2)) (fun q hq' => (hpn q hq').1), hq _ hnD⟩
    rw [upd_ne (Ne.symm hDC)]
    exact (big _ l2).1
  have hgen5 : Heap.IsGen h₁ a g := by
    obtain ⟨o, nm, qn, ho, q⟩ := m.gen
    exact ⟨o, nm, qn, old a o ho, q⟩
  exact codeAny_compStart_list loop (wpAny_pyIter_gen (s := { s3 with heap := h₁, toks := s3.toks + ([] : List (Str × Value)).length }) hgen5 loop)
end
end De
end
section
set_option Elab.async false
set_option linter.all false
set_option maxRecDepth 100000
set_option maxHeartbeats 2000000
/-! zip of two lists in a comprehension -/
namespace De
open PySem L2 PySem.Spec PyProof.Rows RZ
section
variable {K : PySem.W.Frag} {g : Gr} {δ : List Sl} {μ : Mus} {k : Sl → Mus → Prop} {F : AE} {te : TE} {tt : TT} {ta : TA} {tl : TE} {tb : TS}
theorem ev_lcZL {i j : Nat} {vs : List Nat} (hi : i ∈ vs) (hj : j ∈ vs) (h : EvA K g δ μ ta fun ws μ1 => ∃ ds es, ws = [dL ds, dL es] ∧ ∃ Iv, LcT K g (min ds.length es.length) μ1 k Iv fun n acc μ' Jv => ∀ d e, ds[n]? = some d → es[n]? = some e → Elt K g (((wipeS δ vs).set i (.da d)).set j (.da e)) tt te μ' acc Jv) : Ev K g δ μ (tLc (iZipA K ta) (gTup K 2 (gCons (gName i) (gCons (gName j) gNil))) tt te vs) k := fun σ H B c Q hq =>
  h σ H B c _ fun ws μ1 us H1 B1 h1 c1 s1 r1 => by
    obtain ⟨ds, es, e, Iv, hz, i0, is, id⟩ := h1
    subst e
    obtain ⟨v, v', rfl, r2, r3⟩ := rl2 r1
    obtain ⟨a, xs, rfl, h2, h3⟩ := dp_lst r2
    obtain ⟨b, ys, rfl, h4, h5⟩ := dp_lst r3
    have lx := DpAll.len h3
    have ly := DpAll.len h5
    refine ⟨a, b, xs, ys, rfl, .inl ⟨same_l c1.bh h2, same_l c1.bh h4, fun Dl hD => ?_⟩⟩
    refine ⟨fun n m H => m = min ds.length es.length - n ∧ n ≤ min ds.length es.length ∧ LcI K g δ B1 Dl n (Iv n) σ H, ⟨_, rfl, Nat.zero_le _, lcI_start c1 hD i0⟩, fun n m H' ⟨em, il, acc, μ', B', ha, hv, c', s'⟩ => ?_⟩
    have qa : SqL K H' a xs := same_l c'.bh (same_l s' h2)
    have qb : SqL K H' b ys := same_l c'.bh (same_l s' h4)
    by_cases hlt : n < min ds.length es.length
    · right
      have l1 : n < xs.length := by omega
      have l2 : n < ys.length := by omega
      refine ⟨⟨xs, ys, _, _, qa, qb, List.getElem?_eq_getElem l1, List.getElem?_eq_getElem l2⟩, LcI K g δ B1 Dl (n + 1) (Iv (n + 1)) σ, fun H2 z => ⟨min ds.length es.length - (n + 1), by omega, rfl, hlt, z⟩, fun v H2 yl => ?_⟩
      obtain ⟨T, x, y, rfl, hT, rfl, hx, hy⟩ := yl
      obtain ⟨d, hd, hr⟩ := DpAll.get' h3 (hx xs qa)
      obtain ⟨e, he, hr'⟩ := DpAll.get' h5 (hy ys qb)
      obtain ⟨c2, s2⟩ := (c'.wipe vs).new (o := .tup [x, y]) hT
      refine ⟨T, [x, y], rfl, .inl (.inl upd_same), rfl, x, [y], rfl, y, [], rfl, rfl, ?_⟩
      have hw : L2.wipe (((L2.wipe σ vs).set i (some x)).set j (some y)) vs = L2.wipe σ vs := by
        apply List.ext_getElem?
        intro q
        rw [wipe_get, wipe_get, List.length_set, List.length_set, wipe_length]
        by_cases hq : q ∈ vs ∧ q < σ.length
        · rw [if_pos hq, if_pos hq]
        · rw [if_neg hq, if_neg hq]
          by_cases z : j = q
          · subst z
            have hz : ¬ j < σ.length := fun z => hq ⟨hj, z⟩
            rw [List.getElem?_eq_none (by rw [List.length_set, List.length_set, wipe_length]; omega), List.getElem?_eq_none (by omega)]
          · rw [List.getElem?_set_ne z]
            by_cases z : i = q
            · subst z
              have hz : ¬ i < σ.length := fun z => hq ⟨hi, z⟩
              rw [List.getElem?_eq_none (by rw [List.length_set, wipe_length]; omega), List.getElem?_eq_none (by omega)]
            · rw [List.getElem?_set_ne z, wipe_get, if_neg hq]
      exact ⟨hw, elt_run c1 ((c2.store (i := i) (w := .da d) (dp_same (s'.trans s2) hr)).store (i := j) (w := .da e) (dp_same (s'.trans s2) hr')) (s'.trans s2) ha (by omega) (is n acc μ' hlt hv d e hd he)⟩
    · left
      have : n = min ds.length es.length := by omega
      subst this
      exact ⟨⟨xs, ys, qa, qb, by omega⟩, hq _ _ _ _ _ (id acc μ' hv Dl) c' (s1.trans s') rfl⟩

theorem ev_compZL {ta : TA} {te : TE} {i j : Nat} {vs : List Nat} (hi : i ∈ vs) (hj : j ∈ vs) (h : EvA K g δ μ ta fun ws μ1 => ∃ ds es, ws = [dL ds, dL es] ∧ ∃ f : PyData → PyData → PyData, ds.length < 90000 ∧ (∀ x, x ∈ g.ms → x ∈ μ1.map (·.1)) ∧ (∀ d e, d ∈ ds → e ∈ es → PureE K g (((wipeS δ vs).set i (.da d)).set j (.da e)) tYes te μ1 true (f d e)) ∧ k (dL ((ds.zip es).map fun p => f p.1 p.2)) μ1) :
    Ev K g δ μ (tLc (RZ.iZipA K ta) (gTup K 2 (gCons (gName i) (gCons (gName j) gNil))) tYes te vs) k :=
  ev_frz (ev_lcZL hi hj (fun σ H B c Q hq => h σ H B c Q fun ws μ1 us H1 B1 ⟨ds, es, e, f, hl, hm, hb, hk⟩ => hq ws μ1 us H1 B1 ⟨ds, es, e, fun n acc μ' => μ' = μ1 ∧ acc = (((ds.zip es).take n).map fun p => f p.1 p.2).map Sl.da, by omega, ⟨rfl, rfl⟩, fun n acc μ' hn ⟨e1, e2⟩ d e' hd he => by
      subst e1
      have hz : (ds.zip es)[n]? = some (d, e') := by rw [List.getElem?_zip_eq_some]; exact ⟨hd, he⟩
      refine elt_pure (hb d e' (List.mem_of_getElem? hd) (List.mem_of_getElem? he)) ⟨rfl, ?_⟩
      rw [if_pos rfl, List.take_add_one, hz, e2, Option.toList_some, List.map_append, List.map_append]
      rfl, fun acc μ' ⟨e1, e2⟩ q => by
      subst e1
      rw [List.take_of_length_le (by rw [List.length_zip]; exact Nat.le_refl _)] at e2
      exact ⟨q, _, _, rfl, by rw [e2], hm, hk⟩⟩))
/-- list + list: both change -/
theorem o_catM {i j : Nat} {a b : Addr} {ws us : List Sl} (hi : μ[i]? = some (a, .lis ws)) (hj : μ[j]? = some (b, .lis us)) (hl : ws.length + us.length ≤ sizeLine) (q : ∀ p, k (.va (.ref p)) (μ ++ [(p, .lis (ws ++ us))])) : Op2 K g δ rCat (.va (.ref a)) (.va (.ref b)) μ k := fun σ H B c v1 v2 r1 r2 Q hq => by
  cases (show v1 = _ from r1)
  cases (show v2 = _ from r2)
  obtain ⟨xs, h1, h2⟩ := c.lis hi
  obtain ⟨ys, h3, h4⟩ := c.lis hj
  have app : ∀ {vs ws zs us}, RlAll K B vs ws → RlAll K B zs us → RlAll K B (vs ++ zs) (ws ++ us) := fun {vs ws zs us} a b => by
    induction a with
    | nil => exact b
    | cons h _ ih => exact .cons h ih
  refine ⟨a, b, xs, ys, rfl, rfl, h1, h3, by rw [h2.len, h4.len]; exact hl, fun p hp => ?_⟩
  exact hq _ _ _ _ _ (q p) (c.newM (o := .lst (xs ++ ys)) hp ⟨_, upd_same, app h2 h4⟩) Same.rfl' rfl
theorem rlAll_dI {B : Hp} : ∀ {vs : List V} {ns : List Int}, RlAll K B vs (ns.map fun n => dI n) → vs = ns.map V.int
  | [], [], _ => rfl
  | _ :: _, _ :: _, .cons h a => by
    cases dp_int h
    rw [rlAll_dI a]
    rfl
  | [], _ :: _, h => by cases h
  | _ :: _, [], h => by cases h
theorem oc_minM {j : Nat} {a : Addr} {ns : List Int} (hj : μ[j]? = some (a, .lis (ns.map fun n => dI n))) (hn : 0 < ns.length) (q : ∀ m, m ∈ ns → (∀ y, y ∈ ns → m ≤ y) → k (dI m) μ) : OpC K g δ (rMin K) [.va (.ref a)] μ k := fun σ H B c vs r Q hq => by
  cases r with
  | cons r1 r2 =>
    cases r2
    cases (show _ = V.ref a from r1)
    obtain ⟨xs, h1, h2⟩ := c.lis hj
    have e := rlAll_dI h2
    subst e
    refine ⟨a, ns, rfl, .inl (.inl h1), hn, fun m h3 h4 => ?_⟩
    exact hq _ _ _ _ _ (q m h3 h4) c Same.rfl' (.int m)
/-- .. the list stays one's own -/
theorem ev_compZM {i j : Nat} {vs : List Nat} (hi : i ∈ vs) (hj : j ∈ vs) (h : EvA K g δ μ ta fun ws μ1 => ∃ ds es, ws = [dL ds, dL es] ∧ ∃ f : PyData → PyData → PyData, ds.length < 90000 ∧ (∀ d e, d ∈ ds → e ∈ es → PureE K g (((wipeS δ vs).set i (.da d)).set j (.da e)) tYes te μ1 true (f d e)) ∧ ∀ p, k (.va (.ref p)) (μ1 ++ [(p, .lis (((ds.zip es).map fun p => f p.1 p.2).map Sl.da))])) :
    Ev K g δ μ (tLc (RZ.iZipA K ta) (gTup K 2 (gCons (gName i) (gCons (gName j) gNil))) tYes te vs) k :=
  ev_lcZL hi hj (fun σ H B c Q hq => h σ H B c Q fun ws μ1 us H1 B1 ⟨ds, es, e, f, hl, hb, hk⟩ => hq ws μ1 us H1 B1 ⟨ds, es, e, fun n acc μ' => μ' = μ1 ∧ acc = (((ds.zip es).take n).map fun p => f p.1 p.2).map Sl.da, by omega, ⟨rfl, rfl⟩, fun n acc μ' hn ⟨e1, e2⟩ d e' hd he => by
      subst e1
      have hz : (ds.zip es)[n]? = some (d, e') := by rw [List.getElem?_zip_eq_some]; exact ⟨hd, he⟩
      refine elt_pure (hb d e' (List.mem_of_getElem? hd) (List.mem_of_getElem? he)) ⟨rfl, ?_⟩
      rw [if_pos rfl, List.take_add_one, hz, e2, Option.toList_some, List.map_append, List.map_append]
      rfl, fun acc μ' ⟨e1, e2⟩ q => by
      subst e1
      rw [List.take_of_length_le (by rw [List.length_zip]; exact Nat.le_refl _)] at e2
      rw [e2]
      exact hk q⟩)
end
end De
end
section
set_option Elab.async false
set_option linter.all false
set_option maxRecDepth 100000
set_option maxHeartbeats 4000000
/-! machine.py: untouched -/
namespace De
open PySem L2 PySem.Spec PyProof.Rows GenW StX RZ
local macro_rules | `(tactic| walk_at "de") => `(tactic| first
  | with_reducible refine go_seq ?_
  | with_reducible refine go_set ?_
  | with_reducible refine go_ret ?_
  | with_reducible refine go_if ?_
  | with_reducible refine go_next ?_
  | with_reducible refine go_drop ?_
  | ((with_reducible apply ev_da); exact rfl)
  | ((with_reducible apply ev_va); exact rfl)
  | with_reducible refine ev_c ?_
  | with_reducible refine ev_op ?_
  | with_reducible refine ev_un ?_
  | with_reducible refine ea_nil ?_
  | with_reducible refine ea_cons ?_
  | with_reducible refine ev_sortset ?_
  | ((with_reducible apply ev_cells); (focus assumption); (focus assumption))
  | ((with_reducible apply ev_reach); (focus assumption); (focus assumption))
  | ((with_reducible apply ev_made); (focus assumption); (focus assumption))
  | with_reducible refine ev_height ?_
  | ((with_reducible apply ev_methS); (focus (decide +kernel)); (focus (decide +kernel)); (focus (decide +kernel)))
  | with_reducible refine ev_callS ?_
  | with_reducible refine ev_count ?_
  | with_reducible refine ev_tcount ?_
  | with_reducible refine oc_len_c ?_
  | with_reducible refine ev_cb ?_
  | with_reducible refine eb_test ?_
  | with_reducible refine eb_B ?_
  | with_reducible refine eb_and ?_
  | with_reducible refine eb_or ?_
  | with_reducible refine eb_not ?_
  | with_reducible refine ev_andV ?_
  | with_reducible refine ev_orV ?_
  | with_reducible refine ev_notV ?_
  | with_reducible refine ev_if ?_
  | with_reducible refine ev_sl ?_
  | with_reducible refine eo_no ?_
  | with_reducible refine eo_some ?_
  | with_reducible refine ev_tup' ?_
  | with_reducible refine ev_callX ?_
  | with_reducible refine ev_callP ?_
  | with_reducible refine ev_callNP ?_
  | with_reducible refine ev_call ?_
  | with_reducible refine ev_callN ?_
  | with_reducible refine ev_chain ?_
  | with_reducible refine o_I0 ?_
  | with_reducible refine o_eqI ?_
  | with_reducible refine o_neI ?_
  | with_reducible refine o_eqS ?_
  | with_reducible refine o_neS ?_
  | with_reducible refine o_isN ?_
  | with_reducible refine o_notN ?_
  | with_reducible refine o_ltS ?_
  | with_reducible refine o_U ?_
  | with_reducible refine oc_len_tS ?_
  | with_reducible refine oc_len_lS ?_
  | with_reducible refine oc_len_t ?_
  | with_reducible refine oc_len_l ?_
  | with_reducible refine o_ix0 ?_
  | with_reducible refine o_ix1 ?_
  | with_reducible refine ev_dnew ?_
  | with_reducible refine oc_isiT ?_
  | with_reducible refine oc_isiTL ?_
  | with_reducible refine oc_isiI ?_
  | with_reducible refine oc_isiIB ?_
  | with_reducible refine oc_isiS ?_
  | with_reducible refine oc_min2 ?_
  | with_reducible refine oc_max2 ?_
  | with_reducible refine oc_abs ?_
  | with_reducible refine oc_tup_lS ?_
  | with_reducible refine oc_tup_l ?_
  | with_reducible refine o_inF ?_
  | with_reducible refine o_inT ?_
  | with_reducible refine o_inLF ?_
  | with_reducible refine o_inLT ?_
  | with_reducible refine eb_yes ?_
  | (refine Exists.intro _ (Exists.intro _ (Exists.intro _ (Exists.intro _ (Exists.intro _ (Exists.intro _ (Exists.intro _ (Exists.intro _ (And.intro rfl (And.intro rfl ?_))))))))))
  | (refine Exists.intro _ (And.intro (show dats _ = some _ from rfl) (And.intro (show Nat.ble _ 60 = true from rfl) ?_)))
  | with_reducible refine Exists.intro _ (And.intro rfl ?_))
local macro_rules | `(tactic| walk_at "cx") => `(tactic| try simp only [cx_K, cx_K'])
local macro_rules | `(tactic| walk_at "go") => `(tactic| repeat walk_at "de")

section
variable {K : PySem.W.Frag} {g : Gr} {δ : List Sl} {μ : Mus} {F : AE} {ta tk : TA}
theorem dpAll_ints {B : Hp} : ∀ (is : List Nat), DpAll K B (is.map fun i => V.int (i : Nat)) (is.map fun i => PyData.int (i : Nat))
  | [] => .nil
  | i :: is => .cons (.int _) (dpAll_ints is)
def lensD (st : Nat → List Str) (n : Nat) : List PyData := (List.range n).map fun k => PyData.int ((st k).length : Nat)
theorem dpAll_lens {B : Hp} (st : Nat → List Str) (n : Nat) : DpAll K B (lens st n) (lensD st n) := by
  have h := dpAll_ints (K := K) (B := B) ((List.range n).map fun k => (st k).length)
  unfold lens lensD
  rw [List.map_map, List.map_map] at h
  exact h
theorem go_lcTr {j : Nat} (h : EvA K g δ μ ta fun ws μ1 => EvA K g δ μ1 tk fun us μ2 => ∃ S Lx r, ws = [.da (tS S), .da (.tuple (Lx.map insD))] ∧ us = [dI (r : Nat)] ∧ InsAll r S Lx ∧ Lx.length < 70000 ∧ (∀ k, (stA S Lx k).length < 90000) ∧ F.nx (δ.set j (dL (lensD (stA S Lx) (Lx.length + 1)))) μ2) :
    Go K g δ μ (tLcT K j ta tk) F := fun σ H B c D fi =>
  h σ H B c _ fun ws μ1 vs H1 B1 h1 c1 s1 r1 => h1 σ H1 B1 c1 _ fun us μ2 zs H2 B2 ⟨S, Lx, r, e1, e2, hv, hl, hl2, hk⟩ c2 s2 r2 => by
    subst e1 e2
    have r1' := rlAll_same s2 r1
    cases r1' with
    | cons a1 a2 =>
      cases a2 with
      | cons b1 b2 =>
        cases b2
        cases r2 with
        | cons d1 d2 =>
          cases d2
          cases dp_int d1
          refine ⟨B2, S, Lx, r, c2.bh, ⟨_, _, rfl, rfl, a1, b1, hv, hl⟩, hl2, fun p hp => ?_⟩
          obtain ⟨c3, s3⟩ := c2.new (o := .lst (lens (stA S Lx) (Lx.length + 1))) hp
          exact fi.nx _ _ _ _ _ hk (c3.store (i := j) (v := .ref p) (w := dL (lensD (stA S Lx) (Lx.length + 1))) (.lst (.inl (.inl upd_same)) (dpAll_lens _ _))) ((s1.trans s2).trans s3)
end
def needD (d : PyData) : Int := match d with
  | .tuple [_] => (Ins.pop.need : Int)
  | .tuple [.str "dup", .int i] => (Ins.dup i.toNat).need
  | .tuple [_, .int i] => (Ins.swap i.toNat).need
  | _ => 0
theorem needD_ins (x : Ins) : needD (insD x) = x.need := by
  cases x <;> rfl
abbrev N56 : List Str := ["stack", "reach", "parts", "heights", "lows", "height", "instruction"]
abbrev P56 : List Str := ["stack", "reach", "parts"]
theorem sc56 : FnScope N56 P56 (defScope (topS 56)) := ⟨rfl, rfl, rfl, by decide +kernel, rfl, by decide +kernel, by decide +kernel⟩
theorem bind56 (kV doc pm : Value) (an : Option Addr) (cdv ct : Value) (S I r : Value) : bindArgs (PySem.W.fnOf "untouched" "untouched" (defArgs (topS 56)) (defBody (topS 56)) (defScope (topS 56)) .none kV doc pm an cdv ct) ⟨[S, I], [(("reach" : Str), r)]⟩ = (newTuple [I] >>= fun t => pure (P56.zip [S, r, t])) := by rfl
/-- the heights less what each instruction needs -/
def lowsN (S : List Str) (Lx : List Ins) : List Int := ((lensD (stA S Lx) (Lx.length + 1)).zip (Lx.map insD)).map fun q => intD q.1 - needD q.2
def D56 (ws : List Sl) (o : Sl) : Prop := ∃ S Lx r, ws = [.da (tS S), .da (.tuple (Lx.map insD)), dI (r : Nat)] ∧ InsAll r S Lx ∧ Lx.length ≤ 60000 ∧ (∀ k, (stA S Lx k).length < 90000) ∧ ∃ m : Int, o = dI m ∧ m ∈ ((S.length : Int) :: lowsN S Lx) ∧ ∀ y, y ∈ ((S.length : Int) :: lowsN S Lx) → m ≤ y
section
variable {P : Program} {w : World} {K : PySem.W.Frag} {mg : Str → Option Value} {base : Heap}
theorem ok56 (T : Tx K mg) : FnK P w K mg base CX0 6 T.f56.a 2 ["reach"] (spG K (pu D56)) := by
  refine star1 T.f56.F sc56 rfl bind56 (fun ws o h => by obtain ⟨S, Lx, r, rfl, _⟩ := h; exact ⟨_, _, _, rfl⟩) (fun cdv A outer s H E hr => ⟨_, pss_cons (ps_lcT (j := 3) T (hr.mono (by decide)) hr.hd sc56.nd rfl (by rfl) (by rfl) (pa_cons (pv 0) (pa_star (pv 2) pa_nil)) (pk_cons (pv 1) pk_nil) rfl rfl rfl rfl (by decide) (fun v => rfl) (sw_true rfl rfl rfl (by decide +kernel)) (by decide +kernel) (by decide +kernel) rfl (by decide +kernel) rfl rfl)
    (pss_cons (ps_setLc (i := 4) (g := gTup K 2 (gCons (gName 5) (gCons (gName 6) gNil))) (tt := tYes) (own := [("height", 5), ("instruction", 6)]) rfl sc56.nd rfl rfl (sw_true rfl rfl rfl (by decide +kernel)) (pi_zipA (by rfl) T.z_zip (pa_cons (pv 3) (pa_cons (pe_call (ok34 T) (hr.mono (by decide)) (by rfl) T.f34.g T.f34.F.kp T.f34.b .nil pass0 (pa_cons (pv 2) pa_nil)) pa_nil))) (blkOk_by (N := ["stack", "reach", "parts", "heights", "lows", "height", "instruction"]) (sc := defScope (topS 56)) (own := [("height", 5), ("instruction", 6)]) (by decide +kernel)) (fun _ _ _ _ _ => pg_tup rfl (pgs_cons (pg_name (i := 5) sc56.nd rfl (.inl rfl)) (pgs_cons (pg_name (i := 6) sc56.nd rfl (.inl rfl)) pgs_nil))) (fun _ _ _ _ _ => pts_nil) (fun _ _ _ _ _ => pe_call (ok53 T) (hr.mono (by decide)) (by rfl) T.f53.g T.f53.F.kp T.f53.b .nil pass0 (pa_cons (pv 5) (pa_cons (pv 6) pa_nil))))
    (pss_one (ps_ret (pe_callB (cr_min rfl) (by rfl) T.z_min (by decide +kernel) (pa_cons (pe_op op_cat (pe_lst (pa_cons (pe_callB (r := Evl.rLenS K) call_lenS (by rfl) T.z_len (by decide +kernel) (pa_cons (pv 0) pa_nil)) pa_nil)) (pv 4)) pa_nil))))), fun g a d b o eg h => ?_⟩)
  obtain ⟨S, Lx, r, e, hv, hl, hl2, m, rfl, hm1, hm2⟩ := h
  cases e
  refine go_seq (go_lcTr ?_)
  walk_at "go"
  refine ea_star (K := K) ?_
  walk_at "go"
  refine ⟨S, Lx, r, rfl, rfl, hv, by omega, hl2, ?_⟩
  walk_at "go"
  refine ev_compZM (K := K) (by simp) (by simp) ?_
  walk_at "go"
  refine ⟨_, ⟨_, rfl, tups_ins Lx, by rw [List.length_map]; omega, rfl⟩, ?_⟩
  walk_at "go"
  refine ⟨_, _, rfl, fun d e => .int (intD d - needD e), by unfold lensD; rw [List.length_map, List.length_range]; omega, fun d e hd he μ' => ?_, fun p => ?_⟩
  · obtain ⟨n, hn, rfl⟩ := List.mem_map.mp hd
    obtain ⟨x, hx, rfl⟩ := List.mem_map.mp he
    refine eb_yes ⟨rfl, rfl, fun _ => ?_⟩
    walk_at "go"
    refine ⟨_, ⟨_, x, rfl, rfl⟩, ?_⟩
    refine ⟨?_, rfl⟩
    show dI _ = dI (_ - needD (insD x))
    rw [needD_ins]
    rfl
  walk_at "go"
  refine ev_lstM ?_
  walk_at "go"
  refine ⟨by show 1 ≤ sizeLine; decide, fun q => ?_⟩
  walk_at "go"
  have e1 : ((((lensD (stA S Lx) (Lx.length + 1)).zip (Lx.map insD)).map fun q => PyData.int (intD q.1 - needD q.2)).map Sl.da) = (lowsN S Lx).map fun n => dI n := by
    unfold lowsN
    rw [List.map_map, List.map_map]
    rfl
  have hlo : (lowsN S Lx).length ≤ 60000 := by
    unfold lowsN
    rw [List.length_map, List.length_zip, List.length_map]
    omega
  refine o_catM (i := 1) (j := 0) rfl rfl (by have h100 : 100000 ≤ sizeLine := by decide
                                              rw [e1, List.length_map]; show 1 + _ ≤ _; omega) fun t => ?_
  walk_at "go"
  refine oc_minM (K := K) (j := 2) (ns := (S.length : Int) :: lowsN S Lx) (by rw [e1]; rfl) (by show 0 < _ + 1; omega) fun m' h1 h2 => ?_
  have : m' = m := Int.le_antisymm (h2 m hm1) (hm2 m' h1)
  rw [this]
end
end De
end
section
set_option Elab.async false
set_option linter.all false
set_option maxRecDepth 100000
set_option maxHeartbeats 4000000
/-! the law's pen -/
namespace De
open PySem L2 PySem.Spec PyProof.Rows RZ
section
variable {K : PySem.W.Frag} {g : Gr} {δ : List Sl} {μ : Mus} {k : Sl → Mus → Prop} {te ta : TE} {tas : TA} {F : AE} {t u : TS}
abbrev inD (cs : List Int) : PyData := .list (cs.map PyData.int)
theorem plDs_ints : ∀ (cs : List Int), plDs (cs.map PyData.int) = true
  | [] => rfl
  | c :: cs => by simp only [List.map_cons, plDs, plD, plDs_ints cs]; rfl
theorem depthAll_ints : ∀ (cs : List Int), PyData.depthAll (cs.map PyData.int) = 0
  | [] => rfl
  | c :: cs => by simp only [List.map_cons, PyData.depthAll, PyData.depth, depthAll_ints cs]; rfl
theorem ints_sh (cs : List Int) : SeqAt.shaped (.list (cs.map PyData.int)) = true := shaped_pl (by simp only [plD]; exact plDs_ints cs) (by simp only [PyData.depth, depthAll_ints]; decide)
theorem o_neInts {cs : List Int} (q : k (dB (!decide (cs = []))) μ) : Op2 K g δ (rNeD K) (dL (cs.map PyData.int)) (dL []) μ k := by
  refine o_neD (ints_sh cs) (ints_sh []) ?_
  cases cs with
  | nil => exact q
  | cons c cs => exact q
theorem o_rI {C : Int → Int → Prop} {f : Int → Int → Int} {i j : Int} (hc : C i j) (q : k (dI (f i j)) μ) : Op2 K g δ (rI C fun i j => V.int (f i j)) (dI i) (dI j) μ k := fun σ H B c v1 v2 r1 r2 Q hq => by
  cases dp_int r1; cases dp_int r2
  exact ⟨i, j, rfl, rfl, hc, hq.go c q (.int _)⟩
theorem o_mod {i j : Int} (hj : 0 < j) (q : ∀ v : Int, 0 ≤ v → v < j → k (dI v) μ) : Op2 K g δ (rI (fun _ j => 0 < j) fun i j => V.int (i % j)) (dI i) (dI j) μ k :=
  o_rI (f := fun i j => i % j) hj (q _ (Int.emod_nonneg _ (by omega)) (Int.emod_lt_of_pos _ hj))
/-- the pen: the cells, the place, what is left of a great cell -/
def penM (cs : List Int) (p : Nat) (q : Int) : Mu := .lis [dL (cs.map PyData.int), dI (p : Nat), dI q]
/-- a pen, at most b cells begun -/
def Pw (m : Mu) (b : Nat) : Prop := ∃ cs p q, m = penM cs p q ∧ p ≤ b ∧ cs.length < 1000
theorem Pw.mono {m : Mu} {b b' : Nat} (h : Pw m b) (hb : b ≤ b') : Pw m b' := let ⟨cs, p, q, e, h1, h2⟩ := h; ⟨cs, p, q, e, by omega, h2⟩
/-- what a def over a pen promises: it begins at most c cells; what may come out -/
def Spn (R : List Sl → (Sl → Prop) → Prop) (c : Nat) : Spec := fun ws μ k => ∃ a m b args, ws = .va (.ref a) :: args ∧ μ = [(a, m)] ∧ Pw m b ∧ b + c < 900000 ∧ ∃ Po, R args Po ∧ ∀ w m', Po w → Pw m' (b + c) → k w [(a, m')]
def pnAE (a : Addr) (b : Nat) (Po : Sl → Prop) : AE :=
  { nx := fun _ μ' => ∃ m' rest, μ' = (a, m') :: rest ∧ Pw m' b ∧ Po dN, rt := fun w μ' => ∃ m' rest, μ' = (a, m') :: rest ∧ Pw m' b ∧ Po w }
theorem pn_go {R : List Sl → (Sl → Prop) → Prop} {c : Nat} {N : List Str} {ws : List Sl} (eg : g.ms = μ.map (·.1)) (h : Spn R c ws μ k)
    (b : ∀ a m b args Po, R args Po → Pw m b → b + c < 900000 → g.ms = [a] → Go K g (slots0 N (.va (.ref a) :: args)) [(a, m)] t (pnAE a (b + c) Po)) : Go K g (slots0 N ws) μ t (endAE g k) := by
  obtain ⟨a, m, n, args, rfl, rfl, hp, hb, Po, hR, hk⟩ := h
  have eg' : g.ms = [a] := eg
  refine (b a m n args Po hR hp hb eg').imp (fun _ m' e => ?_) (fun w m' e => ?_) (fun _ _ h => h.elim) (fun _ _ h => h.elim)
  · obtain ⟨m2, rest, rfl, h1, h2⟩ := e
    exact ⟨[(a, m2)], [], by simp, by rw [eg']; rfl, hk _ _ h2 h1⟩
  · obtain ⟨m2, rest, rfl, h1, h2⟩ := e
    exact ⟨[(a, m2)], [], by simp, by rw [eg']; rfl, hk _ _ h2 h1⟩
theorem pn_len {R : List Sl → (Sl → Prop) → Prop} {c n : Nat} (h : ∀ args Po, R args Po → args.length = n) : ∀ ws μ k, Spn R c ws μ k → ws.length = n + 1 := fun ws μ k ⟨a, m, b, args, e, _, _, _, Po, hR, _⟩ => by
  rw [e, List.length_cons, h _ _ hR]
theorem CallK.pn {R : List Sl → (Sl → Prop) → Prop} {c : Nat} {ws : List Sl} {μ1 : Mus} (h : ∃ a m b args rest, ws = .va (.ref a) :: args ∧ μ1 = (a, m) :: rest ∧ Pw m b ∧ b + c < 900000 ∧ ∃ Po, R args Po ∧ ∀ w m', Po w → Pw m' (b + c) → k w ((a, m') :: rest)) : CallK (Spn R c) ws μ1 k := by
  obtain ⟨a, m, b, args, rest, e1, e2, hp, hb, Po, hR, hk⟩ := h
  subst e1 e2
  refine ⟨[0], [(a, m)], rfl, by decide, fun w μ' => ∃ m', Po w ∧ Pw m' (b + c) ∧ μ' = [(a, m')], ⟨a, m, b, args, rfl, rfl, hp, hb, Po, hR, fun w m' h1 h2 => ⟨m', h1, h2, rfl⟩⟩, fun w μf' news _ ⟨m', h1, h2, e⟩ => ?_⟩
  subst e
  show k w ((a, m') :: rest ++ [])
  rw [List.append_nil]
  exact hk _ _ h1 h2
theorem ev_pn {R : List Sl → (Sl → Prop) → Prop} {c : Nat} {E : XK} (h : EvA K g δ μ tas fun ws μ1 => ∃ a m b args rest, ws = .va (.ref a) :: args ∧ μ1 = (a, m) :: rest ∧ Pw m b ∧ b + c < 900000 ∧ ∃ Po, R args Po ∧ ∀ w m', Po w → Pw m' (b + c) → k w ((a, m') :: rest)) : Ev K g δ μ (tCall (spG K (Spn R c)) [] E tas) k :=
  ev_call fun σ H B cc Q hq => h σ H B cc Q fun ws μ1 vs H1 B1 x => hq ws μ1 vs H1 B1 (.pn x)
/-- a draw below n -/
def R59 (args : List Sl) (Po : Sl → Prop) : Prop := ∃ n : Nat, args = [dI (n : Nat)] ∧ 0 < n ∧ n < 1000 ∧ ∀ v : Nat, v < n → Po (dI (v : Nat))
theorem ev_draw {E : XK} (h : EvA K g δ μ tas fun ws μ1 => ∃ a m b n rest, ws = [.va (.ref a), dI (n : Nat)] ∧ μ1 = (a, m) :: rest ∧ Pw m b ∧ b + 1 < 900000 ∧ 0 < n ∧ n < 1000 ∧ ∀ (v : Nat) m', v < n → Pw m' (b + 1) → k (dI (v : Nat)) ((a, m') :: rest)) : Ev K g δ μ (tCall (spG K (Spn R59 1)) [] E tas) k :=
  ev_pn fun σ H B cc Q hq => h σ H B cc Q fun ws μ1 vs H1 B1 ⟨a, m, b, n, rest, e1, e2, hp, hb, hn, hn2, hk⟩ => hq ws μ1 vs H1 B1 (by
    subst e1 e2
    exact ⟨a, m, b, [dI (n : Nat)], rest, rfl, rfl, hp, by omega, fun w => ∃ v : Nat, v < n ∧ w = dI (v : Nat), ⟨n, rfl, hn, hn2, fun v hv => ⟨v, hv, rfl⟩⟩, fun w m' ⟨v, hv, e⟩ h2 => by subst e; exact hk v m' hv h2⟩)
theorem mod_nat (x : Int) {n : Nat} (h : 0 < n) : ∃ v : Nat, v < n ∧ x % (n : Int) = (v : Nat) := by
  have h1 := Int.emod_nonneg x (show (n : Int) ≠ 0 by omega)
  have h2 := Int.emod_lt_of_pos x (show (0 : Int) < n by omega)
  exact ⟨(x % (n : Int)).toNat, by omega, by omega⟩
section
variable {cs : List Int} {p : Nat} {q : Int} {a : Addr} {rest : Mus}
theorem o_pen0 (h : k (dL (cs.map PyData.int)) ((a, penM cs p q) :: rest)) : Op2 K g δ (rIx K) (.va (.ref a)) (dI 0) ((a, penM cs p q) :: rest) k := o_ixM (j := 0) rfl (w := dL (cs.map PyData.int)) rfl h
theorem o_pen1 (h : k (dI (p : Nat)) ((a, penM cs p q) :: rest)) : Op2 K g δ (rIx K) (.va (.ref a)) (dI 1) ((a, penM cs p q) :: rest) k := o_ixM (j := 0) rfl (w := dI (p : Nat)) rfl h
theorem o_pen2 (h : k (dI q) ((a, penM cs p q) :: rest)) : Op2 K g δ (rIx K) (.va (.ref a)) (dI 2) ((a, penM cs p q) :: rest) k := o_ixM (j := 0) rfl (w := dI q) rfl h
theorem eg_pen1 {to ti : TE} {p' : Nat} {kn : List Sl → Mus → Prop} (h : Ev K g δ μ to fun w1 μ1 => Ev K g δ μ1 ti fun w2 μ2 => ∃ a cs p q rest, w1 = .va (.ref a) ∧ w2 = dI 1 ∧ μ2 = (a, penM cs p q) :: rest ∧ kn δ ((a, penM cs p' q) :: rest)) : EvG K g δ μ (gSub to ti rSetL) (dI (p' : Nat)) kn :=
  eg_sub fun σ H B cc Q hq => h σ H B cc Q fun w1 μ1 v1 H1 B1 h1 => hq w1 μ1 v1 H1 B1 fun σ H B cc Q hq => h1 σ H B cc Q fun w2 μ2 v2 H2 B2 ⟨a, cs, p, q, rest, e1, e2, e3, hk⟩ => hq w2 μ2 v2 H2 B2 (by
    subst e1 e2 e3
    exact ⟨a, 0, _, 1, 1, rfl, rfl, rfl, rfl, hk⟩)
theorem eg_pen2 {to ti : TE} {q' : Int} {kn : List Sl → Mus → Prop} (h : Ev K g δ μ to fun w1 μ1 => Ev K g δ μ1 ti fun w2 μ2 => ∃ a cs p q rest, w1 = .va (.ref a) ∧ w2 = dI 2 ∧ μ2 = (a, penM cs p q) :: rest ∧ kn δ ((a, penM cs p q') :: rest)) : EvG K g δ μ (gSub to ti rSetL) (dI q') kn :=
  eg_sub fun σ H B cc Q hq => h σ H B cc Q fun w1 μ1 v1 H1 B1 h1 => hq w1 μ1 v1 H1 B1 fun σ H B cc Q hq => h1 σ H B cc Q fun w2 μ2 v2 H2 B2 ⟨a, cs, p, q, rest, e1, e2, e3, hk⟩ => hq w2 μ2 v2 H2 B2 (by
    subst e1 e2 e3
    exact ⟨a, 0, _, 2, 2, rfl, rfl, rfl, rfl, hk⟩)
end
end
local macro_rules | `(tactic| walk_at "de") => `(tactic| first
  | with_reducible refine go_seq ?_
  | with_reducible refine go_set ?_
  | with_reducible refine go_asg ?_
  | with_reducible refine go_ret ?_
  | with_reducible refine go_if ?_
  | with_reducible refine go_next ?_
  | with_reducible refine go_drop ?_
  | ((with_reducible apply ev_da); exact rfl)
  | ((with_reducible apply ev_va); exact rfl)
  | with_reducible refine ev_c ?_
  | with_reducible refine ev_op ?_
  | with_reducible refine ev_un ?_
  | with_reducible refine ea_nil ?_
  | with_reducible refine ea_cons ?_
  | with_reducible refine ev_sortset ?_
  | ((with_reducible apply ev_cells); (focus assumption); (focus assumption))
  | ((with_reducible apply ev_reach); (focus assumption); (focus assumption))
  | ((with_reducible apply ev_made); (focus assumption); (focus assumption))
  | with_reducible refine ev_height ?_
  | ((with_reducible apply ev_methS); (focus (decide +kernel)); (focus (decide +kernel)); (focus (decide +kernel)))
  | with_reducible refine ev_callS ?_
  | with_reducible refine ev_count ?_
  | with_reducible refine ev_tcount ?_
  | with_reducible refine oc_len_c ?_
  | with_reducible refine ev_cb ?_
  | with_reducible refine eb_test ?_
  | with_reducible refine eb_B ?_
  | with_reducible refine eb_and ?_
  | with_reducible refine eb_or ?_
  | with_reducible refine eb_not ?_
  | with_reducible refine ev_andV ?_
  | with_reducible refine ev_orV ?_
  | with_reducible refine ev_notV ?_
  | with_reducible refine ev_if ?_
  | with_reducible refine ev_sl ?_
  | with_reducible refine eo_no ?_
  | with_reducible refine eo_some ?_
  | with_reducible refine ev_tup' ?_
  | with_reducible refine o_pen0 ?_
  | with_reducible refine o_pen1 ?_
  | with_reducible refine o_pen2 ?_
  | with_reducible refine ev_draw ?_
  | with_reducible refine ev_callX ?_
  | with_reducible refine ev_callP ?_
  | with_reducible refine ev_callNP ?_
  | with_reducible refine ev_call ?_
  | with_reducible refine ev_callN ?_
  | with_reducible refine ev_chain ?_
  | with_reducible refine o_I0 ?_
  | with_reducible refine o_eqI ?_
  | with_reducible refine o_neI ?_
  | with_reducible refine o_eqS ?_
  | with_reducible refine o_neS ?_
  | with_reducible refine o_isN ?_
  | with_reducible refine o_notN ?_
  | with_reducible refine o_ltS ?_
  | with_reducible refine o_U ?_
  | with_reducible refine oc_len_tS ?_
  | with_reducible refine oc_len_lS ?_
  | with_reducible refine oc_len_t ?_
  | with_reducible refine oc_len_l ?_
  | with_reducible refine o_ix0 ?_
  | with_reducible refine o_ix1 ?_
  | with_reducible refine ev_dnew ?_
  | with_reducible refine oc_isiT ?_
  | with_reducible refine oc_isiTL ?_
  | with_reducible refine oc_isiI ?_
  | with_reducible refine oc_isiIB ?_
  | with_reducible refine oc_isiS ?_
  | with_reducible refine oc_min2 ?_
  | with_reducible refine oc_max2 ?_
  | with_reducible refine oc_abs ?_
  | with_reducible refine oc_intB ?_
  | with_reducible refine oc_tup_lS ?_
  | with_reducible refine oc_tup_l ?_
  | with_reducible refine o_inF ?_
  | with_reducible refine o_inT ?_
  | with_reducible refine o_inLF ?_
  | with_reducible refine o_inLT ?_
  | with_reducible refine eb_yes ?_
  | (refine Exists.intro _ (Exists.intro _ (Exists.intro _ (Exists.intro _ (Exists.intro _ (Exists.intro _ (Exists.intro _ (Exists.intro _ (And.intro rfl (And.intro rfl ?_))))))))))
  | (refine Exists.intro _ (And.intro (show dats _ = some _ from rfl) (And.intro (show Nat.ble _ 60 = true from rfl) ?_)))
  | with_reducible refine Exists.intro _ (And.intro rfl ?_))
local macro_rules | `(tactic| walk_at "cx") => `(tactic| try simp only [cx_K, cx_K'])
local macro_rules | `(tactic| walk_at "go") => `(tactic| repeat walk_at "de")

section
variable {P : Program} {w : World} {K : PySem.W.Frag} {mg : Str → Option Value} {base : Heap}
theorem sc58 : FnScope ["_law_script"] ["_law_script"] (defScope (topS 58)) := ⟨rfl, rfl, rfl, by decide +kernel, rfl, by decide +kernel, by decide +kernel⟩
def S58 : Spec := fun ws μ k => ∃ cs : List Int, ws = [dL (cs.map PyData.int)] ∧ μ = [] ∧ cs.length ≤ 63 ∧ ∀ a m, Pw m 0 → k (.va (.ref a)) [(a, m)]
theorem ok58 (T : Tx K mg) : FnOk P w K mg base CX0 1 T.f58.a T.f58.d ["_law_script"] (spG K S58) := by
  refine fn_go T.f58.F sc58 (fun ws μ k h => by obtain ⟨_, rfl, _⟩ := h; rfl) (fun cdv A outer s H E hr => ⟨_, (pss_one (ps_ret (pe_lst (pa_cons (pe_callTy (r := Evl.rListS K) call_listS (by rfl) T.z_list (by decide +kernel) (pa_cons (pe_slice (r := rSlL K) sl_list (pv 0) po_none (po_some pe_int)) pa_nil)) (pa_cons pe_int (pa_cons pe_int pa_nil)))))), fun g ws μ k eg h => ?_⟩)
  obtain ⟨cs, rfl, rfl, hl, hk⟩ := h
  have eg : g.ms = [] := eg
  walk_at "cx"
  refine Go.slots (δ' := [dL (cs.map PyData.int)]) rfl ?_
  refine go_ret (ev_lstM ?_)
  refine ea_cons (ev_frz ?_)
  walk_at "go"
  refine os_lst ?_
  have ec : cutD (cs.map PyData.int) none (some 63) = cs.map PyData.int := by
    rw [show (63 : Int) = ((63 : Nat) : Int) from rfl, cut_to]
    exact List.take_of_length_le (by rw [List.length_map]; exact hl)
  rw [ec]
  walk_at "go"
  refine oc_list_l fun p => ⟨p, cs.map PyData.int, [], rfl, rfl, by rw [eg]; simp, ?_⟩
  walk_at "go"
  refine ⟨by show 3 ≤ sizeLine; decide, fun a => ⟨_, [a], List.Sublist.refl _, by rw [eg]; rfl, hk a _ ⟨cs, 0, 0, rfl, Nat.le_refl _, by omega⟩⟩⟩
theorem sc59 : FnScope ["_law_pen_here", "_law_many", "_law_place", "_law_cell", "_law_mixed", "_law_digit", "_law_great"] ["_law_pen_here", "_law_many"] (defScope (topS 59)) := ⟨rfl, rfl, rfl, by decide +kernel, rfl, by decide +kernel, by decide +kernel⟩
theorem ok59 (T : Tx K mg) : FnOk P w K mg base CX0 1 T.f59.a T.f59.d ["_law_pen_here", "_law_many"] (spG K (Spn R59 1)) := by
  refine fn_go T.f59.F sc59 (pn_len fun args Po h => by obtain ⟨_, rfl, _⟩ := h; rfl) (fun cdv A outer s H E hr => ⟨_, (pss_cons (ps_if (pt_cmpR op_gt (pe_ix (r := rIx K) ix_seq (pv 0) pe_int (fun _ _ => rfl)) pe_int (nomark _)) (pss_cons (ps_set (i := 5) sc59.nd rfl (.inl rfl) (pe_op op_mod (pe_ix (r := rIx K) ix_seq (pv 0) pe_int (fun _ _ => rfl)) (pv 1)))
      (pss_cons (ps_asg (pe_op op_fdiv (pe_ix (r := rIx K) ix_seq (pv 0) pe_int (fun _ _ => rfl)) (pv 1)) (pg_sub (pv 0) pe_int set_list))
      (pss_one (ps_ret (pv 5))))) pss_nil)
      (pss_cons (ps_set (i := 2) sc59.nd rfl (.inl rfl) (pe_ix (r := rIx K) ix_seq (pv 0) pe_int (fun _ _ => rfl)))
      (pss_cons (ps_asg (pe_op op_add (pv 2) pe_int) (pg_sub (pv 0) pe_int set_list))
      (pss_cons (ps_set (i := 3) sc59.nd rfl (.inl rfl) (pe_op op_add (pe_op op_mul pe_int (pv 2)) pe_int))
      (pss_cons (ps_if (pt_cmpR (r := rNeD K) (op_neD hr.units) (pe_ix (r := rIx K) ix_seq (pv 0) pe_int (fun _ _ => rfl)) (pe_lst pa_nil) (nomark _)) (pss_one (ps_set (i := 3) sc59.nd rfl (.inl rfl) (pe_ix (r := rIx K) ix_seq (pe_ix (r := rIx K) ix_seq (pv 0) pe_int (fun _ _ => rfl)) (pe_op op_mod (pv 2) (pe_callB (r := Evl.rLenS K) call_lenS (by rfl) T.z_len (by decide +kernel) (pa_cons (pe_ix (r := rIx K) ix_seq (pv 0) pe_int (fun _ _ => rfl)) pa_nil))) (fun _ _ => rfl)))) pss_nil)
      (pss_cons (ps_if (PW.pt (pw_and (pt_cmpR op_lt (pv 2) (pe_callB (r := Evl.rLenS K) call_lenS (by rfl) T.z_len (by decide +kernel) (pa_cons (pe_ix (r := rIx K) ix_seq (pv 0) pe_int (fun _ _ => rfl)) pa_nil)) (nomark _)) (pw_and1 (pt_cmpR op_ge (pe_callB call_abs (by rfl) T.z_abs (by decide +kernel) (pa_cons (pv 3) pa_nil)) (pe_op op_pow pe_int pe_int) (nomark _))))) (pss_cons (ps_set (i := 6) sc59.nd rfl (.inl rfl) (pe_op op_add (pe_op op_mul pe_int (pe_callB call_abs (by rfl) T.z_abs (by decide +kernel) (pa_cons (pv 3) pa_nil))) (pe_callTy call_int1 (by rfl) T.z_int (by decide +kernel) (pa_cons (pe_cmpR op_lt (pv 3) pe_int (nomark _)) pa_nil))))
      (pss_cons (ps_asg (pe_op op_fdiv (pv 6) (pv 1)) (pg_sub (pv 0) pe_int set_list))
      (pss_one (ps_ret (pe_op op_mod (pv 6) (pv 1)))))) pss_nil)
      (pss_cons (ps_set (i := 4) sc59.nd rfl (.inl rfl) (pe_op op_mod (pe_op op_pow (pe_op op_add (pe_op op_add (pe_op op_mod (pv 3) pe_int) (pe_op op_mul pe_int (pv 2))) pe_int) pe_int) pe_int))
      (pss_cons (ps_set (i := 4) sc59.nd rfl (.inl rfl) (pe_op op_mod (pe_op op_pow (pe_op op_add (pe_op op_add (pv 4) (pe_op op_mul (pe_op op_mul pe_int (pv 2)) (pv 2))) pe_int) pe_int) pe_int))
      (pss_one (ps_ret (pe_op op_mod (pe_op op_fdiv (pe_op op_mod (pe_op op_add (pe_op op_mul (pv 4) (pe_op op_add (pe_op op_mul pe_int (pv 2)) pe_int)) pe_int) pe_int) pe_int) (pv 1)))))))))))), fun g ws μ k eg h => ?_⟩)
  refine pn_go eg h fun a m b args Po hR hp hb eg => ?_
  obtain ⟨n, rfl, hn, hn2, hk⟩ := hR
  obtain ⟨cs, p, q, rfl, hp, hcs⟩ := hp
  walk_at "cx"
  refine Go.slots (δ' := [.va (.ref a), dI (n : Nat), .no, .no, .no, .no, .no]) rfl ?_
  walk_at "go"
  refine ⟨fun h1 => ?_, fun h1 => ?_⟩
  · walk_at "go"
    refine o_rI (f := fun i j => i % j) (by omega) ?_
    walk_at "go"
    refine o_rI (f := fun i j => i / j) ⟨by omega, by omega⟩ ?_
    refine eg_pen2 ?_
    walk_at "go"
    refine ⟨a, cs, p, q, [], rfl, rfl, rfl, ?_⟩
    walk_at "go"
    obtain ⟨v, hv, ev⟩ := mod_nat q hn
    refine ⟨_, [], rfl, ⟨cs, p, q / n, rfl, by omega, hcs⟩, ?_⟩
    show Po (dI (q % n))
    rw [ev]
    exact hk v hv
  walk_at "go"
  refine eg_pen1 (p' := p + 1) ?_
  walk_at "go"
  refine ⟨a, cs, p, q, [], rfl, rfl, rfl, ?_⟩
  refine go_mid (fun δ' μ' => δ' = [.va (.ref a), dI (n : Nat), dI (p : Nat), dI (65011 * p + 59), .no, .no, .no] ∧ μ' = [(a, penM cs (p + 1) q)]) ?_ ?_
  · walk_at "go"
    refine o_rI (f := fun i j => i * j) (.inl ⟨by omega, by omega⟩) ?_
    walk_at "go"
    exact ⟨rfl, rfl⟩
  rintro _ _ ⟨rfl, rfl⟩
  refine go_mid (fun δ' μ' => ∃ c : Int, δ' = [.va (.ref a), dI (n : Nat), dI (p : Nat), dI c, .no, .no, .no] ∧ μ' = [(a, penM cs (p + 1) q)]) ?_ ?_
  · walk_at "go"
    refine ev_lst' ?_
    walk_at "go"
    refine o_neInts ?_
    walk_at "go"
    refine ⟨fun h2 => ?_, fun h2 => ?_⟩
    · have hc0 : 0 < cs.length := by
        cases cs with
        | nil => simp at h2
        | cons c cs => simp
      walk_at "go"
      rw [List.length_map]
      refine o_rI (f := fun i j => i % j) (by omega) ?_
      obtain ⟨v, hv, ev⟩ := mod_nat (p : Int) hc0
      refine o_ixL (d := .int cs[v]) (atI_ofNat ev (by rw [List.getElem?_map, List.getElem?_eq_getElem hv]; rfl)) ?_
      walk_at "go"
      exact rfl
    · walk_at "go"
      exact rfl
  rintro _ _ ⟨c, rfl, rfl⟩
  have hpen : Pw (penM cs (p + 1) q) (b + 1) := ⟨cs, p + 1, q, rfl, by omega, hcs⟩
  refine go_mid (fun δ' μ' => δ' = [.va (.ref a), dI (n : Nat), dI (p : Nat), dI c, .no, .no, .no] ∧ μ' = [(a, penM cs (p + 1) q)]) ?_ ?_
  · walk_at "go"
    refine ⟨fun h2 => ?_, fun h2 => ?_⟩
    · walk_at "go"
      refine o_rI (f := fun i j => i ^ j.toNat) ⟨by decide, by decide, by decide⟩ ?_
      walk_at "go"
      refine ⟨fun h3 => ?_, fun h3 => ?_⟩
      · walk_at "go"
        refine o_rI (f := fun i j => i * j) (.inl ⟨by decide, by decide⟩) ?_
        walk_at "go"
        refine o_rI (f := fun i j => i / j) ⟨by omega, by omega⟩ ?_
        refine eg_pen2 ?_
        walk_at "go"
        refine ⟨a, cs, p + 1, q, [], rfl, rfl, rfl, ?_⟩
        walk_at "go"
        refine o_rI (f := fun i j => i % j) (by omega) ?_
        obtain ⟨v, hv, ev⟩ := mod_nat ((2 * if c < 0 then -c else c) + if decide (c < 0) = true then 1 else 0) hn
        refine ⟨_, [], rfl, ⟨cs, p + 1, _, rfl, by omega, hcs⟩, ?_⟩
        rw [ev]
        exact hk v hv
      · walk_at "go"
        exact ⟨rfl, rfl⟩
    · refine ⟨fun h => (by cases h), fun _ => ?_⟩
      walk_at "go"
      exact ⟨rfl, rfl⟩
  rintro _ _ ⟨rfl, rfl⟩
  have hpp : (p : Int) * p ≤ 900000 * 900000 := by
    have := Nat.mul_le_mul (show p ≤ 900000 by omega) (show p ≤ 900000 by omega)
    omega
  walk_at "go"
  refine o_mod (by decide) fun v1 h2 h3 => ?_
  walk_at "go"
  refine o_rI (f := fun i j => i * j) (.inl ⟨by decide, by decide⟩) ?_
  walk_at "go"
  refine o_rI (f := fun i j => i ^ j.toNat) ⟨by decide, by decide, by omega⟩ ?_
  walk_at "go"
  refine o_mod (by decide) fun v2 h4 h5 => ?_
  walk_at "go"
  refine o_rI (f := fun i j => i * j) (.inl ⟨by decide, by decide⟩) ?_
  walk_at "go"
  refine o_rI (f := fun i j => i * j) (.inl ⟨by omega, by omega⟩) ?_
  walk_at "go"
  refine o_rI (f := fun i j => i ^ j.toNat) ⟨by decide, by decide, ?_⟩ ?_
  · rw [Int.mul_assoc]
    have h0 : 0 ≤ (p : Int) * p := Int.mul_nonneg (by omega) (by omega)
    generalize (p : Int) * p = y at hpp h0 ⊢
    omega
  walk_at "go"
  refine o_mod (by decide) fun v3 h6 h7 => ?_
  walk_at "go"
  refine o_rI (f := fun i j => i * j) (.inl ⟨by decide, by decide⟩) ?_
  walk_at "go"
  refine o_rI (f := fun i j => i * j) (.inl ⟨by omega, by omega⟩) ?_
  walk_at "go"
  refine o_mod (by decide) fun v4 h8 h9 => ?_
  walk_at "go"
  refine o_rI (f := fun i j => i / j) ⟨by decide, by decide⟩ ?_
  walk_at "go"
  refine o_rI (f := fun i j => i % j) (by omega) ?_
  obtain ⟨v, hv, ev⟩ := mod_nat (v4 / 32) hn
  refine ⟨_, [], rfl, hpen, ?_⟩
  rw [ev]
  exact hk v hv
end
end De
end
section
set_option Elab.async false
set_option linter.all false
set_option maxRecDepth 100000
set_option maxHeartbeats 4000000
/-! the law's pool of values, its piles -/
namespace De
open PySem L2 PySem.Spec PyProof.Rows RZ
/-- a text by its signs -/
def wS (l : List Nat) : Str := ⟨l.toArray⟩
theorem wS_inj {l m : List Nat} (h : wS l = wS m) : l = m := by
  have := congrArg TL.tl h
  exact this
theorem okS_wS {l : List Nat} (h : ∀ c, c ∈ l → c < 1000) : okS (wS l) = true := by
  unfold okS wS
  rw [Array.all_eq_true]
  intro i hi
  have : (l.toArray)[i] ∈ l := by simp
  have := h _ this
  show decide ((l.toArray)[i] < 0x110000) = true
  exact decide_eq_true (by omega)
section
variable {K : PySem.W.Frag} {g : Gr} {δ : List Sl} {μ : Mus} {k : Sl → Mus → Prop} {te ta to : TE} {tas : TA} {F : AE} {t u : TS}
theorem dps_strs {B : Hp} : ∀ {xs : List V} {ss : List Str}, DpAll K B xs (ss.map PyData.str) → xs = ss.map V.str := dp_strs
/-- e.join(list of texts) -/
theorem ev_join (h : Ev K g δ μ to fun w μ1 => ∃ a : Str, w = dS a ∧ Ev K g δ μ1 te fun w2 μ2 => ∃ ss : List Str, w2 = .da (lS ss) ∧ (ss.map (·.length)).sum + ss.length * a.length ≤ 16777216 ∧ k (dS (Txt.join a ss)) μ2) :
    Ev K g δ μ (tM1 (fun x xs H Q => ∃ a p, ∃ ys : List Str, x = .str a ∧ xs = [.ref p] ∧ (SqL K H p (ys.map V.str) ∨ SqT K H p (ys.map V.str)) ∧ (ys.map (·.length)).sum + ys.length * a.length ≤ 16777216 ∧ Q (.str (Txt.join a ys)) H) to te) k := fun σ H B c Q hq =>
  h σ H B c _ fun w μ1 v H1 B1 ⟨a, e1, h1⟩ c1 s1 r1 => by
    subst e1
    cases dp_str r1
    refine ⟨⟨a, rfl⟩, h1 σ H1 B1 c1 _ fun w2 μ2 v2 H2 B2 ⟨ss, e2, hl, hk⟩ c2 s2 r2 => ?_⟩
    subst e2
    obtain ⟨p, xs, rfl, h2, h3⟩ := dp_lst r2
    cases dp_strs h3
    exact ⟨a, p, ss, rfl, rfl, .inl (same_l c2.bh h2), hl, (hq.mono (s1.trans s2)).go c2 hk (.str _)⟩
/-- s[i] -/
theorem o_ixCh {s : Str} {i : Int} {n c : Nat} (e : i = (n : Int)) (hz : s.length ≤ 1000) (h : (TL.tl s)[n]? = some c) (q : k (dS (wS [c])) μ) : Op2 K g δ (rIx K) (dS s) (dI i) μ k := fun σ H B cc v1 v2 r1 r2 Q hq => by
  cases dp_str r1; cases dp_int r2
  exact .inr (.inr ⟨s, i, c, rfl, rfl, Nat.le_trans hz (by decide), atI_ofNat e h, hq.go cc q (.str _)⟩)
/-- s + t -/
theorem o_addS {s t : List Nat} (hz : s.length + t.length ≤ 1000) (q : k (dS (wS (s ++ t))) μ) : Op2 K g δ (fun x y H Q => ∃ i j, x = .str i ∧ y = .str j ∧ i.length + j.length ≤ sizeLine ∧ Q (.str (i ++ j)) H) (dS (wS s)) (dS (wS t)) μ k := fun σ H B cc v1 v2 r1 r2 Q hq => by
  cases dp_str r1; cases dp_str r2
  refine ⟨_, _, rfl, rfl, ?_, ?_⟩
  · have : (wS s).length + (wS t).length = s.length + t.length := rfl
    rw [this]
    exact Nat.le_trans hz (by decide)
  have e : wS s ++ wS t = wS (s ++ t) := TL.ext_tl (by rw [TL.tl_append]; rfl)
  rw [e]
  exact hq.go cc q (.str _)
/-- s[1:] -/
theorem os_tailS {a : Nat} {l : List Nat} (hz : l.length ≤ 900) (q : k (dS (wS l)) μ) : OpSl K g δ rSlS (dS (wS (a :: l))) (some 1) none μ k := fun σ H B cc v r Q hq => by
  cases dp_str r
  refine ⟨_, rfl, ?_, ?_⟩
  · show (a :: l).length ≤ _
    have : 1000 ≤ sizeLine := by decide
    rw [List.length_cons]; omega
  have e : L2.cutS (wS (a :: l)) (some 1) none = wS l := by
    have h := cut_from (a :: l) 1
    have e2 : L2.cutS (wS (a :: l)) (some 1) none = wS (cutD (a :: l) (some 1) none) := rfl
    rw [e2]
    rw [show (1 : Int) = ((1 : Nat) : Int) from rfl, h]
    rfl
  rw [e]
  exact hq.go cc q (.str _)
/-- s.index(t) -/
theorem ev_sindex (h : Ev K g δ μ to fun w μ1 => ∃ a : Str, w = dS a ∧ EvA K g δ μ1 tas fun ws μ2 => ∃ b i r, ws = [dS b] ∧ Builtin.Str.occurrences a b 0 a.length 1 = i :: r ∧ k (dI (i : Nat)) μ2) :
    Ev K g δ μ (tBM K "str" (fun x xs H Q => ∃ a b i rest, x = .str a ∧ xs = [.str b] ∧ Builtin.Str.occurrences a b 0 a.length 1 = i :: rest ∧ Q (.int (i : Nat)) H) to tas) k := fun σ H B c Q hq =>
  h σ H B c _ fun w μ1 v H1 B1 ⟨a, e1, h1⟩ c1 s1 r1 => by
    subst e1
    cases dp_str r1
    refine ⟨rfl, h1 σ H1 B1 c1 _ fun ws μ2 vs H2 B2 ⟨b, i, r, e2, ho, hk⟩ c2 s2 r2 => ?_⟩
    subst e2
    obtain ⟨v2, rfl, r3⟩ := rl1 r2
    cases dp_str r3
    exact ⟨a, b, i, r, rfl, rfl, ho, (hq.mono (s1.trans s2)).go c2 hk (.int _)⟩
/-- l.append(e) -/
theorem ev_app (h : Ev K g δ μ ta fun w μ1 => ∃ (a : Addr) (j : Nat) (ws : List Sl), w = .va (.ref a) ∧ μ1[j]? = some (a, .lis ws) ∧ EvA K g δ μ1 tas fun us μ2 => ∃ (w : Sl) (ws2 : List Sl), us = [w] ∧ μ2[j]? = some (a, .lis ws2) ∧ ws2.length < 100000 ∧ k dN (μ2.set j (a, .lis (ws2 ++ [w])))) : Ev K g δ μ (tBM K "list" rAppend ta tas) k :=
  ev_bm fun σ H B cc Q hq => h σ H B cc Q fun w μ1 v H1 B1 ⟨a, j, ws, e1, e2, x⟩ => hq w μ1 v H1 B1 ⟨by subst e1; exact ty_m e2, fun σ H B cc Q hq => x σ H B cc Q fun us μ2 vs H2 B2 ⟨w2, ws2, e3, e4, hl, y⟩ => hq us μ2 vs H2 B2 (by subst e1 e3; exact om_append e4 hl y)⟩
end
abbrev letS : Str := "abcdefghijklmnopqrstuvwxyz"
theorem let_at {n : Nat} (h : n < 26) : (TL.tl letS)[n]? = some (97 + n) := by
  have : ∀ n : Fin 26, (TL.tl letS)[n.val]? = some (97 + n.val) := by decide +kernel
  exact this ⟨n, h⟩
theorem let_len : letS.length = 26 := by decide +kernel
theorem let_ix {n : Nat} (h : n < 26) : Builtin.Str.occurrences letS (wS [97 + n]) 0 letS.length 1 = [n] := by
  have : ∀ n : Fin 26, Builtin.Str.occurrences letS (wS [97 + n.val]) 0 letS.length 1 = [n.val] := by decide +kernel
  exact this ⟨n, h⟩
/-- a value of the pool -/
def Wd (s : Str) : Prop := ∃ a l, s = wS (a :: l) ∧ l.length ≤ 7 ∧ 97 ≤ a ∧ a < 123 ∧ ∀ c, c ∈ l → 97 ≤ c ∧ c < 123
theorem Wd.ok {s : Str} (h : Wd s) : okS s = true := by
  obtain ⟨a, l, rfl, _, h1, h2, h3⟩ := h
  refine okS_wS fun c hc => ?_
  rcases List.mem_cons.mp hc with rfl | hc
  · omega
  · have := h3 c hc; omega
theorem join_ones : ∀ (ls : List Nat), Txt.join (Str.ofString "") (ls.map fun c => wS [c]) = wS ls := fun ls => by
  refine TL.ext_tl ?_
  rw [TL.join_eq, TL.tl_join, List.map_map]
  have e0 : TL.tl (Str.ofString "") = [] := by decide +kernel
  rw [e0]
  have : ∀ ls : List Nat, TL.joinL [] (ls.map (TL.tl ∘ fun c => wS [c])) = ls := by
    intro ls
    induction ls with
    | nil => rfl
    | cons a r ih =>
      cases r with
      | nil => rfl
      | cons b r =>
        show [a] ++ ([] ++ TL.joinL [] ((b :: r).map (TL.tl ∘ fun c => wS [c]))) = _
        rw [ih]; rfl
  exact this ls
theorem sum_ones : ∀ (ls : List Nat), ((ls.map fun c => wS [c]).map (·.length)).sum = ls.length
  | [] => rfl
  | a :: r => by
    have := sum_ones r
    simp only [List.map_cons, List.sum_cons, this, List.length_cons]
    show 1 + _ = _
    omega
/-- the words that a turning first letter gives are different -/
theorem rot_len {c0 j : Nat} {r : List Nat} {ss : List Str} (hj : j ≤ 26) (h : ∀ i, i < j → wS ((97 + (c0 + i) % 26) :: r) ∈ ss) : j ≤ ss.length := by
  have hn : ((List.range j).map fun i => wS ((97 + (c0 + i) % 26) :: r)).Nodup := by
    refine List.pairwise_map.mpr (List.Pairwise.imp_of_mem ?_ List.nodup_range)
    intro x y hx hy hne e
    have hx := List.mem_range.mp hx
    have hy := List.mem_range.mp hy
    have := wS_inj e
    injection this with e1
    exact hne (by omega)
  have := nodup_sub_len hn (ys := ss) fun x hx => by
    obtain ⟨i, hi, rfl⟩ := List.mem_map.mp hx
    exact h i (List.mem_range.mp hi)
  simpa using this
local macro_rules | `(tactic| walk_at "de") => `(tactic| first
  | with_reducible refine go_seq ?_
  | with_reducible refine go_set ?_
  | with_reducible refine go_asg ?_
  | with_reducible refine go_ret ?_
  | with_reducible refine go_if ?_
  | with_reducible refine go_next ?_
  | with_reducible refine go_drop ?_
  | ((with_reducible apply ev_da); exact rfl)
  | ((with_reducible apply ev_va); exact rfl)
  | with_reducible refine ev_c ?_
  | with_reducible refine ev_op ?_
  | with_reducible refine ev_un ?_
  | with_reducible refine ea_nil ?_
  | with_reducible refine ea_cons ?_
  | with_reducible refine ev_sortset ?_
  | ((with_reducible apply ev_cells); (focus assumption); (focus assumption))
  | ((with_reducible apply ev_reach); (focus assumption); (focus assumption))
  | ((with_reducible apply ev_made); (focus assumption); (focus assumption))
  | with_reducible refine ev_height ?_
  | ((with_reducible apply ev_methS); (focus (decide +kernel)); (focus (decide +kernel)); (focus (decide +kernel)))
  | with_reducible refine ev_callS ?_
  | with_reducible refine ev_count ?_
  | with_reducible refine ev_tcount ?_
  | with_reducible refine oc_len_c ?_
  | with_reducible refine ev_cb ?_
  | with_reducible refine eb_test ?_
  | with_reducible refine eb_B ?_
  | with_reducible refine eb_and ?_
  | with_reducible refine eb_or ?_
  | with_reducible refine eb_not ?_
  | with_reducible refine ev_andV ?_
  | with_reducible refine ev_orV ?_
  | with_reducible refine ev_notV ?_
  | with_reducible refine ev_if ?_
  | with_reducible refine ev_sl ?_
  | with_reducible refine eo_no ?_
  | with_reducible refine eo_some ?_
  | with_reducible refine ev_tup' ?_
  | with_reducible refine o_pen0 ?_
  | with_reducible refine o_pen1 ?_
  | with_reducible refine o_pen2 ?_
  | with_reducible refine ev_draw ?_
  | with_reducible refine ev_callX ?_
  | with_reducible refine ev_callP ?_
  | with_reducible refine ev_callNP ?_
  | with_reducible refine ev_call ?_
  | with_reducible refine ev_callN ?_
  | with_reducible refine ev_chain ?_
  | with_reducible refine o_I0 ?_
  | with_reducible refine o_eqI ?_
  | with_reducible refine o_neI ?_
  | with_reducible refine o_eqS ?_
  | with_reducible refine o_neS ?_
  | with_reducible refine o_isN ?_
  | with_reducible refine o_notN ?_
  | with_reducible refine o_ltS ?_
  | with_reducible refine o_U ?_
  | with_reducible refine oc_len_tS ?_
  | with_reducible refine oc_len_lS ?_
  | with_reducible refine oc_len_t ?_
  | with_reducible refine oc_len_l ?_
  | with_reducible refine o_ix0 ?_
  | with_reducible refine o_ix1 ?_
  | with_reducible refine ev_dnew ?_
  | with_reducible refine oc_isiT ?_
  | with_reducible refine oc_isiTL ?_
  | with_reducible refine oc_isiI ?_
  | with_reducible refine oc_isiIB ?_
  | with_reducible refine oc_isiS ?_
  | with_reducible refine oc_min2 ?_
  | with_reducible refine oc_max2 ?_
  | with_reducible refine oc_abs ?_
  | with_reducible refine oc_intB ?_
  | with_reducible refine oc_tup_lS ?_
  | with_reducible refine oc_tup_l ?_
  | with_reducible refine o_inF ?_
  | with_reducible refine o_inT ?_
  | with_reducible refine o_inLF ?_
  | with_reducible refine o_inLT ?_
  | with_reducible refine eb_yes ?_
  | (refine Exists.intro _ (Exists.intro _ (Exists.intro _ (Exists.intro _ (Exists.intro _ (Exists.intro _ (Exists.intro _ (Exists.intro _ (And.intro rfl (And.intro rfl ?_))))))))))
  | (refine Exists.intro _ (And.intro (show dats _ = some _ from rfl) (And.intro (show Nat.ble _ 60 = true from rfl) ?_)))
  | with_reducible refine Exists.intro _ (And.intro rfl ?_))
local macro_rules | `(tactic| walk_at "cx") => `(tactic| try simp only [cx_K, cx_K'])
local macro_rules | `(tactic| walk_at "go") => `(tactic| repeat walk_at "de")

section
variable {P : Program} {w : World} {K : PySem.W.Frag} {mg : Str → Option Value} {base : Heap}
theorem sc60 : FnScope ["_law_pen_here", "_law_many", "_law_letters", "_law_short", "_law_found", "_law_k", "_law_size", "_law_word", "_law_j"] ["_law_pen_here", "_law_many"] (defScope (topS 60)) := ⟨rfl, rfl, rfl, by decide +kernel, rfl, by decide +kernel, by decide +kernel⟩
def R60 (args : List Sl) (Po : Sl → Prop) : Prop := ∃ n : Nat, args = [dI (n : Nat)] ∧ n ≤ 12 ∧ ∀ ss : List Str, ss.length = n → (∀ s, s ∈ ss → okS s = true) → Po (.da (lS ss))
def I60 (a f : Addr) (n sh b i : Nat) (δ' : List Sl) (μ' : Mus) : Prop := ∃ (m' : Mu) (ss : List Str) (x y z u : Sl), δ' = [.va (.ref a), dI (n : Nat), dS letS, dI (sh : Nat), .va (.ref f), x, y, z, u] ∧ μ' = [(a, m'), (f, .lis (ss.map dS))] ∧ Pw m' (b + 1 + 9 * i) ∧ ss.length = i ∧ ∀ s, s ∈ ss → Wd s
theorem ok60 (T : Tx K mg) : FnOk P w K mg base CX0 2 T.f60.a T.f60.d ["_law_pen_here", "_law_many"] (spG K (Spn R60 110)) := by
  refine fn_go T.f60.F sc60 (pn_len fun args Po h => by obtain ⟨_, rfl, _⟩ := h; rfl) (fun cdv A outer s H E hr => ⟨_, (pss_cons (ps_set (i := 2) sc60.nd rfl (.inr rfl) pe_str)
      (pss_cons (ps_set (i := 3) sc60.nd rfl (.inl rfl) (pe_call (ok59 T) (hr.mono (by decide)) (by rfl) T.f59.g T.f59.F.kp T.f59.b .nil pass0 (pa_cons (pv 0) (pa_cons pe_int pa_nil))))
      (pss_cons (ps_set (i := 4) sc60.nd rfl (.inl rfl) (pe_lst pa_nil))
      (pss_cons (ps_for PassesOwn.never rfl (pi_range1 rfl T.z_range (pa_cons (pv 1) pa_nil)) (pg_name (i := 5) sc60.nd rfl (.inl rfl)) (pss_cons (ps_set (i := 6) sc60.nd rfl (.inl rfl) (pe_op op_add pe_int (pe_op op_mul (pe_call (ok59 T) (hr.mono (by decide)) (by rfl) T.f59.g T.f59.F.kp T.f59.b .nil pass0 (pa_cons (pv 0) (pa_cons pe_int pa_nil))) (pv 3))))
      (pss_cons (ps_set (i := 7) sc60.nd rfl (.inl rfl) (pe_join pe_str (pe_lc (g := gName 8) (tt := tYes) (own := [("_law_j", 8)]) rfl sc60.nd (pi_range1 rfl T.z_range (pa_cons (pv 6) pa_nil)) (blkOk_by (N := ["_law_pen_here", "_law_many", "_law_letters", "_law_short", "_law_found", "_law_k", "_law_size", "_law_word", "_law_j"]) (sc := defScope (topS 60)) (own := [("_law_j", 8)]) (by decide +kernel)) (fun _ _ _ _ _ => pg_name (i := 8) sc60.nd rfl (.inl rfl)) (fun _ _ _ _ _ => pts_nil) (fun _ _ _ _ _ => pe_ix (r := rIx K) ix_seq (pv 2) (pe_call (ok59 T) (hr.mono (by decide)) (by rfl) T.f59.g T.f59.F.kp T.f59.b .nil pass0 (pa_cons (pv 0) (pa_cons pe_int pa_nil))) (fun _ _ => rfl)))))
      (pss_cons (ps_while PassesOwn.never (pt_cmpR (r := rIn K false) op_in_seq (pv 7) (pv 4) (by rfl)) (pss_one (ps_set (i := 7) sc60.nd rfl (.inl rfl) (pe_op op_add_str (pe_ix (r := rIx K) ix_seq (pv 2) (pe_op op_mod (pe_op op_add (pe_bm PySem.F.plainAttrs_str PySem.F.slot_str_index PySem.F.type_str_index mt_sindex (pv 2) (pa_cons (pe_ix (r := rIx K) ix_seq (pv 7) pe_int (fun _ _ => rfl)) pa_nil)) pe_int) pe_int) (fun _ _ => rfl)) (pe_slice sl_str (pv 7) (po_some pe_int) po_none)))))
      (pss_one (ps_expr (pe_bmK (K := K) rfl PySem.F.plainAttrs_list PySem.F.slot_list_append PySem.F.type_list_append mt_append (pv 4) (pa_cons (pv 7) pa_nil))))))))
      (pss_one (ps_ret (pv 4))))))), fun g ws μ k eg h => ?_⟩)
  refine pn_go eg h fun a m b args Po hR hp hb eg => ?_
  obtain ⟨n, rfl, hn, hk⟩ := hR
  walk_at "cx"
  refine Go.slots (δ' := [.va (.ref a), dI (n : Nat), .no, .no, .no, .no, .no, .no, .no]) rfl ?_
  walk_at "go"
  refine ⟨a, m, b, 2, [], rfl, rfl, hp, by omega, by decide, by decide, fun sh m1 hsh hp1 => ?_⟩
  refine go_seq (go_set (ev_lstM (ea_nil ⟨by decide, fun f => ?_⟩)))
  walk_at "go"
  refine go_forR1 ?_
  walk_at "go"
  refine ⟨small_of (by omega) (by omega), I60 a f n sh b, ⟨m1, [], .no, .no, .no, .no, rfl, rfl, hp1, rfl, fun _ h => (by cases h)⟩, ?_, ?_⟩
  · rintro i _ _ hi ⟨m', ss, x, y, z, u, rfl, rfl, hpi, hsl, hss⟩
    have hi : i < n := by omega
    refine go_mid (fun δ' μ' => ∃ (m2 : Mu) (sz : Nat), δ' = [.va (.ref a), dI (n : Nat), dS letS, dI (sh : Nat), .va (.ref f), dI (i : Nat), dI (sz : Nat), z, u] ∧ μ' = [(a, m2), (f, .lis (ss.map dS))] ∧ Pw m2 (b + 1 + 9 * i + 1) ∧ 1 ≤ sz ∧ sz ≤ 8) ?_ ?_
    · walk_at "go"
      refine ⟨a, m', _, 8, _, rfl, rfl, hpi, by omega, by decide, by decide, fun v m2 hv hp2 => ?_⟩
      walk_at "go"
      refine o_rI (f := fun i j => i * j) (.inl ⟨by omega, by omega⟩) ?_
      walk_at "go"
      refine ⟨m2, 1 + v * sh, ?_, rfl, hp2, by omega, ?_⟩
      · rw [show ((1 + v * sh : Nat) : Int) = 1 + (v : Int) * (sh : Int) by push_cast; rfl]
        rfl
      · have : v * sh ≤ 7 * 1 := Nat.mul_le_mul (by omega) (by omega)
        omega
    rintro _ _ ⟨m2, sz, rfl, rfl, hp2, hsz1, hsz2⟩
    refine go_mid (fun δ' μ' => ∃ (m3 : Mu) (c : Nat) (l : List Nat), δ' = [.va (.ref a), dI (n : Nat), dS letS, dI (sh : Nat), .va (.ref f), dI (i : Nat), dI (sz : Nat), dS (wS (c :: l)), u] ∧ μ' = [(a, m3), (f, .lis (ss.map dS))] ∧ Pw m3 (b + 1 + 9 * (i + 1)) ∧ 97 ≤ c ∧ c < 123 ∧ l.length ≤ 7 ∧ ∀ c, c ∈ l → 97 ≤ c ∧ c < 123) ?_ ?_
    · refine go_set (ev_join ?_)
      walk_at "go"
      refine ev_frz (ev_lcR1 (by simp) ?_)
      walk_at "go"
      refine ⟨small_of (by omega) (by omega), fun j acc μ' => ∃ (m3 : Mu) (l : List Nat), acc = (l.map fun c => wS [c]).map dS ∧ μ' = [(a, m3), (f, .lis (ss.map dS))] ∧ Pw m3 (b + 1 + 9 * i + 1 + j) ∧ l.length = j ∧ ∀ c, c ∈ l → 97 ≤ c ∧ c < 123, by omega, ⟨m2, [], rfl, rfl, hp2, rfl, fun _ h => (by cases h)⟩, ?_, ?_⟩
      · rintro j acc μ' hj ⟨m3, l, rfl, rfl, hp3, hl, hc⟩
        intro Dl
        refine eb_yes ⟨[(a, m3), (f, .lis (ss.map dS))], rfl, fun _ => ?_, fun h => (by cases h)⟩
        walk_at "go"
        refine ⟨a, m3, _, 26, _, rfl, rfl, hp3, by omega, by decide, by decide, fun v m4 hv hp4 => ?_⟩
        refine o_ixCh rfl (by rw [let_len]; decide) (let_at hv) ?_
        refine ⟨_, rfl, m4, l ++ [97 + v], ?_, rfl, hp4, by rw [List.length_append]; simp; omega, fun c h => ?_⟩
        · rw [List.map_append, List.map_append]; rfl
        · rcases List.mem_append.mp h with h | h
          · exact hc c h
          · rw [List.mem_singleton.mp h]; omega
      · rintro acc μ' ⟨m3, l, rfl, rfl, hp3, hl, hc⟩ p
        refine ⟨p, (l.map fun c => wS [c]).map PyData.str, [(a, m3), (f, .lis (ss.map dS))], rfl, ?_, by rw [eg]; simp, l.map fun c => wS [c], rfl, ?_, ?_⟩
        · rw [List.map_map (g := Sl.da)]; rfl
        · rw [sum_ones, List.length_map]
          have : (Str.ofString "").length = 0 := by decide +kernel
          rw [this]; omega
        · rw [join_ones]
          cases l with
          | nil => simp at hl; omega
          | cons c l =>
            rw [List.length_cons] at hl
            have := hc c List.mem_cons_self
            exact ⟨m3, c, l, rfl, rfl, hp3.mono (by omega), this.1, this.2, by omega, fun c h => hc c (List.mem_cons_of_mem _ h)⟩
    rintro _ _ ⟨m3, c, l, rfl, rfl, hp3, hc1, hc2, hl, hlc⟩
    refine go_mid (fun δ' μ' => ∃ (wd : Str), δ' = [.va (.ref a), dI (n : Nat), dS letS, dI (sh : Nat), .va (.ref f), dI (i : Nat), dI (sz : Nat), dS wd, u] ∧ μ' = [(a, m3), (f, .lis (ss.map dS))] ∧ Wd wd) ?_ ?_
    · refine go_while (fun m δ' μ' => ∃ j, m = 30 - j ∧ j ≤ 13 ∧ δ' = [.va (.ref a), dI (n : Nat), dS letS, dI (sh : Nat), .va (.ref f), dI (i : Nat), dI (sz : Nat), dS (wS ((97 + (c - 97 + j) % 26) :: l)), u] ∧ μ' = [(a, m3), (f, .lis (ss.map dS))] ∧ ∀ i, i < j → wS ((97 + (c - 97 + i) % 26) :: l) ∈ ss) 30 ⟨0, rfl, by decide, by rw [show 97 + (c - 97 + 0) % 26 = c by omega], rfl, fun i h => by omega⟩ ?_
      rintro m _ _ ⟨j, rfl, hj, rfl, rfl, hall⟩
      walk_at "go"
      refine o_inM (j := 1) rfl ?_
      refine ⟨_, rfl, ?_⟩
      refine ⟨fun h1 => ?_, fun h1 => ?_⟩
      · have hin : wS ((97 + (c - 97 + j) % 26) :: l) ∈ ss := by simpa using h1
        have hall' : ∀ i, i < j + 1 → wS ((97 + (c - 97 + i) % 26) :: l) ∈ ss := fun i hi => by
          by_cases e : i = j
          · subst e; exact hin
          · exact hall i (by omega)
        have hlen := rot_len (by omega) hall'
        have hn : (c - 97 + j) % 26 < 26 := Nat.mod_lt _ (by decide)
        generalize hnn : (c - 97 + j) % 26 = nn at hn
        walk_at "go"
        refine ev_sindex ?_
        walk_at "go"
        refine o_ixCh (n := 0) rfl (by show _ + 1 ≤ 1000; omega) rfl ?_
        walk_at "go"
        refine ⟨_, nn, [], rfl, let_ix hn, ?_⟩
        walk_at "go"
        refine o_rI (f := fun i j => i % j) (by decide) ?_
        refine o_ixCh (n := (nn + 1) % 26) (by omega) (by rw [let_len]; decide) (let_at (Nat.mod_lt _ (by decide))) ?_
        walk_at "go"
        refine os_tailS (by omega) ?_
        refine o_addS (s := [97 + (nn + 1) % 26]) (by simp; omega) ?_
        refine ⟨30 - (j + 1), by omega, j + 1, rfl, by omega, ?_, rfl, hall'⟩
        rw [show (c - 97 + (j + 1)) % 26 = (nn + 1) % 26 by omega]
        rfl
      · refine ⟨_, rfl, rfl, _, l, rfl, hl, by omega, by omega, hlc⟩
    rintro _ _ ⟨wd, rfl, rfl, hwd⟩
    walk_at "go"
    refine ev_app ?_
    walk_at "go"
    refine ⟨f, 1, _, rfl, rfl, ?_⟩
    walk_at "go"
    refine ⟨_, _, rfl, rfl, by rw [List.length_map]; omega, ?_⟩
    refine ⟨m3, ss ++ [wd], _, _, _, _, rfl, ?_, hp3, by simp; omega, fun s h => ?_⟩
    · rw [List.map_append]; rfl
    · rcases List.mem_append.mp h with h | h
      · exact hss s h
      · rw [List.mem_singleton.mp h]; exact hwd
  · rintro _ _ ⟨m', ss, x, y, z, u, rfl, rfl, hpi, hsl, hss⟩
    refine go_ret (ev_frz ?_)
    walk_at "go"
    refine ⟨f, ss.map PyData.str, [(a, m')], rfl, ?_, by rw [eg]; simp, m', [], rfl, hpi.mono (by omega), ?_⟩
    · rw [List.map_map]; rfl
    exact hk ss (by omega) fun s hs => (hss s hs).ok
end
end De
end
section
set_option Elab.async false
set_option linter.all false
set_option maxRecDepth 100000
set_option maxHeartbeats 4000000
/-! the law's piles, steps, moves -/
namespace De
open PySem L2 PySem.Spec PyProof.Rows RZ
section
variable {K : PySem.W.Frag} {g : Gr} {δ : List Sl} {μ : Mus} {k : Sl → Mus → Prop} {te ta to : TE} {tas : TA} {F : AE} {t u : TS}
/-- [pool[draw(len(pool))] for _ in range(..)] -/
theorem ev_picks {ip j : Nat} {vs : List Nat} {E : XK} (hj : j ∈ vs) (h : EvA K g δ μ tas fun ws μ1 => ∃ (n : Nat) (a : Addr) (m : Mu) (b : Nat) (rest : Mus) (ss : List Str), ws = [dI (n : Nat)] ∧ n < 1000 ∧ μ1 = (a, m) :: rest ∧ Pw m b ∧ b + n < 900000 ∧ 0 < ss.length ∧ ss.length < 1000 ∧
      (∀ i : Nat, ((wipeS δ vs).set j (dI i))[0]? = some (.va (.ref a))) ∧ (∀ i : Nat, ((wipeS δ vs).set j (dI i))[ip]? = some (.da (lS ss))) ∧ (∀ x, x ∈ g.ms → x = a ∨ x ∈ rest.map (·.1)) ∧
      ∀ m' (xs : List Str), Pw m' (b + n) → xs.length = n → (∀ x, x ∈ xs → x ∈ ss) → k (.da (lS xs)) ((a, m') :: rest)) :
    Ev K g δ μ (tLc (iRng1 tas) (gName j) tYes (tOp (rIx K) (tVar ip) (tCall (spG K (Spn R59 1)) [] E (tCons (tVar 0) (tCons (tCB (Evl.rLenS K) (tCons (tVar ip) tNil)) tNil)))) vs) k := by
  refine ev_frz (ev_lcR1 hj fun σ H B c Q hq => h σ H B c Q fun ws μ1 us H1 B1 ⟨n, a, m, b, rest, ss, e1, hn, e2, hp, hb, h0, h1, d0, d1, hm, hk⟩ => hq ws μ1 us H1 B1 ?_)
  subst e1 e2
  refine ⟨n, rfl, small_of (by omega) (by omega), fun i acc μ' => ∃ (m' : Mu) (xs : List Str), acc = xs.map dS ∧ μ' = (a, m') :: rest ∧ Pw m' (b + i) ∧ xs.length = i ∧ ∀ x, x ∈ xs → x ∈ ss, by omega, ⟨m, [], rfl, rfl, hp, rfl, fun _ h => (by cases h)⟩, ?_, ?_⟩
  · rintro i acc μ' hi ⟨m', xs, rfl, rfl, hp', hl, hx⟩ Dl
    refine eb_yes ⟨(a, m') :: rest, rfl, fun _ => ?_, fun h => (by cases h)⟩
    refine ev_op (ev_da (d1 i) (ev_draw (ea_cons (ev_va (d0 i) (ea_cons (ev_cb (ea_cons (ev_da (d1 i) (ea_nil (oc_len_lS (ea_nil ?_)))))))))))
    refine ⟨a, m', b + i, ss.length, _, rfl, rfl, hp', by omega, h0, h1, fun v m2 hv hp2 => ?_⟩
    refine o_ixL (d := .str ss[v]) (atI_ofNat rfl (by rw [List.getElem?_map, List.getElem?_eq_getElem hv]; rfl)) ?_
    refine ⟨(a, m2) :: rest, rfl, m2, xs ++ [ss[v]], ?_, rfl, hp2, by simp; omega, fun x h => ?_⟩
    · rw [List.map_append]; rfl
    · rcases List.mem_append.mp h with h | h
      · exact hx x h
      · rw [List.mem_singleton.mp h]; exact List.getElem_mem _
  · rintro acc μ' ⟨m', xs, rfl, rfl, hp', hl, hx⟩ p
    refine ⟨p, xs.map PyData.str, (a, m') :: rest, rfl, ?_, fun x hx => ?_, hk m' xs (hp'.mono (by omega)) (by omega) hx⟩
    · rw [List.map_map]; rfl
    · rw [List.map_cons, List.mem_cons]; exact hm x hx
end
local macro_rules | `(tactic| walk_at "de") => `(tactic| first
  | with_reducible refine go_seq ?_
  | with_reducible refine go_set ?_
  | with_reducible refine go_asg ?_
  | with_reducible refine go_ret ?_
  | with_reducible refine go_if ?_
  | with_reducible refine go_next ?_
  | with_reducible refine go_drop ?_
  | ((with_reducible apply ev_da); exact rfl)
  | ((with_reducible apply ev_va); exact rfl)
  | with_reducible refine ev_c ?_
  | with_reducible refine ev_op ?_
  | with_reducible refine ev_un ?_
  | with_reducible refine ea_nil ?_
  | with_reducible refine ea_cons ?_
  | with_reducible refine ev_sortset ?_
  | ((with_reducible apply ev_cells); (focus assumption); (focus assumption))
  | ((with_reducible apply ev_reach); (focus assumption); (focus assumption))
  | ((with_reducible apply ev_made); (focus assumption); (focus assumption))
  | with_reducible refine ev_height ?_
  | ((with_reducible apply ev_methS); (focus (decide +kernel)); (focus (decide +kernel)); (focus (decide +kernel)))
  | with_reducible refine ev_callS ?_
  | with_reducible refine ev_count ?_
  | with_reducible refine ev_tcount ?_
  | with_reducible refine oc_len_c ?_
  | with_reducible refine ev_cb ?_
  | with_reducible refine eb_test ?_
  | with_reducible refine eb_B ?_
  | with_reducible refine eb_and ?_
  | with_reducible refine eb_or ?_
  | with_reducible refine eb_not ?_
  | with_reducible refine ev_andV ?_
  | with_reducible refine ev_orV ?_
  | with_reducible refine ev_notV ?_
  | with_reducible refine ev_if ?_
  | with_reducible refine ev_sl ?_
  | with_reducible refine eo_no ?_
  | with_reducible refine eo_some ?_
  | with_reducible refine ev_tup' ?_
  | with_reducible refine o_pen0 ?_
  | with_reducible refine o_pen1 ?_
  | with_reducible refine o_pen2 ?_
  | with_reducible refine ev_draw ?_
  | with_reducible refine ev_callX ?_
  | with_reducible refine ev_callP ?_
  | with_reducible refine ev_callNP ?_
  | with_reducible refine ev_call ?_
  | with_reducible refine ev_callN ?_
  | with_reducible refine ev_chain ?_
  | with_reducible refine o_I0 ?_
  | with_reducible refine o_eqI ?_
  | with_reducible refine o_neI ?_
  | with_reducible refine o_eqS ?_
  | with_reducible refine o_neS ?_
  | with_reducible refine o_isN ?_
  | with_reducible refine o_notN ?_
  | with_reducible refine o_ltS ?_
  | with_reducible refine o_U ?_
  | with_reducible refine oc_len_tS ?_
  | with_reducible refine oc_len_lS ?_
  | with_reducible refine oc_len_t ?_
  | with_reducible refine oc_len_l ?_
  | with_reducible refine o_ix0 ?_
  | with_reducible refine o_ix1 ?_
  | with_reducible refine ev_dnew ?_
  | with_reducible refine oc_isiT ?_
  | with_reducible refine oc_isiTL ?_
  | with_reducible refine oc_isiI ?_
  | with_reducible refine oc_isiIB ?_
  | with_reducible refine oc_isiS ?_
  | with_reducible refine oc_min2 ?_
  | with_reducible refine oc_max2 ?_
  | with_reducible refine oc_abs ?_
  | with_reducible refine oc_intB ?_
  | with_reducible refine oc_tup_lS ?_
  | with_reducible refine oc_tup_l ?_
  | with_reducible refine o_inF ?_
  | with_reducible refine o_inT ?_
  | with_reducible refine o_inLF ?_
  | with_reducible refine o_inLT ?_
  | with_reducible refine eb_yes ?_
  | (refine Exists.intro _ (Exists.intro _ (Exists.intro _ (Exists.intro _ (Exists.intro _ (Exists.intro _ (Exists.intro _ (Exists.intro _ (And.intro rfl (And.intro rfl ?_))))))))))
  | (refine Exists.intro _ (And.intro (show dats _ = some _ from rfl) (And.intro (show Nat.ble _ 60 = true from rfl) ?_)))
  | with_reducible refine Exists.intro _ (And.intro rfl ?_))
local macro_rules | `(tactic| walk_at "cx") => `(tactic| try simp only [cx_K, cx_K'])
local macro_rules | `(tactic| walk_at "go") => `(tactic| repeat walk_at "de")

section
variable {P : Program} {w : World} {K : PySem.W.Frag} {mg : Str → Option Value} {base : Heap}
theorem sc61 : FnScope ["_law_pen_here", "_law_pool_here", "_law_tallest", "_law_k"] ["_law_pen_here", "_law_pool_here", "_law_tallest"] (defScope (topS 61)) := ⟨rfl, rfl, rfl, by decide +kernel, rfl, by decide +kernel, by decide +kernel⟩
def R61 (args : List Sl) (Po : Sl → Prop) : Prop := ∃ (ss : List Str) (tall : Nat), args = [.da (lS ss), dI (tall : Nat)] ∧ 0 < ss.length ∧ ss.length < 1000 ∧ tall ≤ 26 ∧ ∀ xs : List Str, xs.length ≤ tall → (∀ x, x ∈ xs → x ∈ ss) → Po (.da (tS xs))
theorem ok61 (T : Tx K mg) : FnOk P w K mg base CX0 2 T.f61.a T.f61.d ["_law_pen_here", "_law_pool_here", "_law_tallest"] (spG K (Spn R61 27)) := by
  refine fn_go T.f61.F sc61 (pn_len fun args Po h => by obtain ⟨_, _, rfl, _⟩ := h; rfl) (fun cdv A outer s H E hr => ⟨_, (pss_one (ps_ret (pe_callTy (r := rTupF K) call_tupF (by rfl) T.z_tuple (by decide +kernel) (pa_cons (pe_lc (g := gName 3) (tt := tYes) (own := [("_law_k", 3)]) rfl sc61.nd (pi_range1 rfl T.z_range (pa_cons (pe_call (ok59 T) (hr.mono (by decide)) (by rfl) T.f59.g T.f59.F.kp T.f59.b .nil pass0 (pa_cons (pv 0) (pa_cons (pe_op op_add (pv 2) pe_int) pa_nil))) pa_nil)) (blkOk_by (N := ["_law_pen_here", "_law_pool_here", "_law_tallest", "_law_k"]) (sc := defScope (topS 61)) (own := [("_law_k", 3)]) (by decide +kernel)) (fun _ _ _ _ _ => pg_name (i := 3) sc61.nd rfl (.inl rfl)) (fun _ _ _ _ _ => pts_nil) (fun _ _ _ _ _ => pe_ix (r := rIx K) ix_seq (pv 1) (pe_call (ok59 T) (hr.mono (by decide)) (by rfl) T.f59.g T.f59.F.kp T.f59.b .nil pass0 (pa_cons (pv 0) (pa_cons (pe_callB (r := Evl.rLenS K) call_lenS (by rfl) T.z_len (by decide +kernel) (pa_cons (pv 1) pa_nil)) pa_nil))) (fun _ _ => rfl))) pa_nil)))), fun g ws μ k eg h => ?_⟩)
  refine pn_go eg h fun a m b args Po hR hp hb eg => ?_
  obtain ⟨ss, tall, rfl, h0, h1, ht, hk⟩ := hR
  walk_at "cx"
  refine Go.slots (δ' := [.va (.ref a), .da (lS ss), dI (tall : Nat), .no]) rfl ?_
  walk_at "go"
  refine ev_picks (by simp) ?_
  walk_at "go"
  refine ⟨a, m, b, tall + 1, [], rfl, rfl, hp, by omega, by omega, by omega, fun v m1 hv hp1 => ?_⟩
  walk_at "go"
  refine ⟨v, a, m1, b + 1, [], ss, rfl, by omega, rfl, hp1, by omega, h0, h1, fun _ => rfl, fun _ => rfl, by rw [eg]; simp, fun m2 xs hp2 hl hx => ?_⟩
  walk_at "go"
  exact ⟨m2, [], rfl, hp2.mono (by omega), hk xs (by omega) hx⟩
/-! ### steps -/
theorem min_nat (i j : Nat) : (if (j : Int) < (i : Int) then (j : Int) else (i : Int)) = ((min i j : Nat) : Int) := by split <;> omega
/-- what the instructions do to a height -/
def hgt : Ins → Nat → Nat
  | .pop, h => h - 1
  | .dup _, h => h + 1
  | .swap _, h => h
def Steps : Nat → List Ins → Prop
  | _, [] => True
  | h, x :: L => (x.need ≤ h ∧ h ≤ 40 ∧ (match x with | .dup i => 1 ≤ i | .swap i => 1 ≤ i | .pop => True)) ∧ Steps (hgt x h) L
def hgtL : Nat → List Ins → Nat
  | h, [] => h
  | h, x :: L => hgtL (hgt x h) L
theorem Steps.snoc : ∀ {L : List Ins} {h : Nat} {x : Ins}, Steps h L → (x.need ≤ hgtL h L ∧ hgtL h L ≤ 40 ∧ (match x with | .dup i => 1 ≤ i | .swap i => 1 ≤ i | .pop => True)) → Steps h (L ++ [x]) ∧ hgtL h (L ++ [x]) = hgt x (hgtL h L)
  | [], h, x, _, hx => ⟨⟨hx, trivial⟩, rfl⟩
  | y :: L, h, x, hs, hx => by
    obtain ⟨h1, h2⟩ := hs.2.snoc (x := x) hx
    exact ⟨⟨hs.1, h1⟩, h2⟩
theorem sc62 : FnScope ["_law_pen_here", "_law_height", "_law_bound", "_law_many", "_law_found", "_law_k", "_law_way"] ["_law_pen_here", "_law_height", "_law_bound", "_law_many"] (defScope (topS 62)) := ⟨rfl, rfl, rfl, by decide +kernel, rfl, by decide +kernel, by decide +kernel⟩
def R62 (args : List Sl) (Po : Sl → Prop) : Prop := ∃ (h bd n : Nat), args = [dI (h : Nat), dI (bd : Nat), dI (n : Nat)] ∧ h ≤ 40 ∧ 1 ≤ bd ∧ bd < 1000 ∧ n ≤ 24 ∧ ∀ L : List Ins, Steps h L → L.length ≤ n → Po (dL (L.map insD))
def I62 (a f : Addr) (h bd n b i : Nat) (δ' : List Sl) (μ' : Mus) : Prop := ∃ (m' : Mu) (L : List Ins) (x y : Sl), δ' = [.va (.ref a), dI (hgtL h L : Nat), dI (bd : Nat), dI (n : Nat), .va (.ref f), x, y] ∧ μ' = [(a, m'), (f, .lis ((L.map insD).map Sl.da))] ∧ Pw m' (b + 2 * i) ∧ L.length ≤ i ∧ Steps h L ∧ hgtL h L ≤ 40
theorem ok62 (T : Tx K mg) : FnOk P w K mg base CX0 2 T.f62.a T.f62.d ["_law_pen_here", "_law_height", "_law_bound", "_law_many"] (spG K (Spn R62 48)) := by
  refine fn_go T.f62.F sc62 (pn_len fun args Po h => by obtain ⟨_, _, _, rfl, _⟩ := h; rfl) (fun cdv A outer s H E hr => ⟨_, (pss_cons (ps_set (i := 4) sc62.nd rfl (.inl rfl) (pe_lst pa_nil))
      (pss_cons (ps_for PassesOwn.never rfl (pi_range1 rfl T.z_range (pa_cons (pv 3) pa_nil)) (pg_name (i := 5) sc62.nd rfl (.inl rfl)) (pss_cons (ps_set (i := 6) sc62.nd rfl (.inl rfl) (pe_call (ok59 T) (hr.mono (by decide)) (by rfl) T.f59.g T.f59.F.kp T.f59.b .nil pass0 (pa_cons (pv 0) (pa_cons pe_int pa_nil))))
      (pss_one (ps_if (PW.pt (pw_or (PW.pt (pw_and (pt_cmpR op_lt (pv 6) pe_int (nomark _)) (pw_and1 (pt_cmpR op_gt (pv 1) pe_int (nomark _))))) (pw_or1 (pt_cmpR op_gt (pv 1) pe_int (nomark _))))) (pss_cons (ps_expr (pe_bmK (K := K) rfl PySem.F.plainAttrs_list PySem.F.slot_list_append PySem.F.type_list_append mt_append (pv 4) (pa_cons (pe_tupF (pa_cons pe_str pa_nil)) pa_nil)))
      (pss_one (ps_set (i := 1) sc62.nd rfl (.inl rfl) (pe_op op_sub (pv 1) pe_int)))) (pss_one (ps_if (PW.pt (pw_and (pt_cmpR op_lt (pv 6) pe_int (nomark _)) (pw_and1 (pt_cmpR op_gt (pv 1) pe_int (nomark _))))) (pss_cons (ps_expr (pe_bmK (K := K) rfl PySem.F.plainAttrs_list PySem.F.slot_list_append PySem.F.type_list_append mt_append (pv 4) (pa_cons (pe_tupF (pa_cons pe_str (pa_cons (pe_op op_add pe_int (pe_call (ok59 T) (hr.mono (by decide)) (by rfl) T.f59.g T.f59.F.kp T.f59.b .nil pass0 (pa_cons (pv 0) (pa_cons (pe_callB (call_min2 rfl) (by rfl) T.z_min (by decide +kernel) (pa_cons (pv 1) (pa_cons (pv 2) pa_nil))) pa_nil)))) pa_nil))) pa_nil)))
      (pss_one (ps_set (i := 1) sc62.nd rfl (.inl rfl) (pe_op op_add (pv 1) pe_int)))) (pss_one (ps_if (PW.pt (pw_and (pt_cmpR op_lt (pv 6) pe_int (nomark _)) (pw_and1 (pt_cmpR op_gt (pv 1) pe_int (nomark _))))) (pss_one (ps_expr (pe_bmK (K := K) rfl PySem.F.plainAttrs_list PySem.F.slot_list_append PySem.F.type_list_append mt_append (pv 4) (pa_cons (pe_tupF (pa_cons pe_str (pa_cons (pe_op op_add pe_int (pe_call (ok59 T) (hr.mono (by decide)) (by rfl) T.f59.g T.f59.F.kp T.f59.b .nil pass0 (pa_cons (pv 0) (pa_cons (pe_callB (call_min2 rfl) (by rfl) T.z_min (by decide +kernel) (pa_cons (pe_op op_sub (pv 1) pe_int) (pa_cons (pv 2) pa_nil))) pa_nil)))) pa_nil))) pa_nil)))) pss_nil))))))))
      (pss_one (ps_ret (pv 4))))), fun g ws μ k eg h => ?_⟩)
  refine pn_go eg h fun a m b args Po hR hp hb eg => ?_
  obtain ⟨h, bd, n, rfl, hh, hbd, hbd2, hn, hk⟩ := hR
  walk_at "cx"
  refine Go.slots (δ' := [.va (.ref a), dI (h : Nat), dI (bd : Nat), dI (n : Nat), .no, .no, .no]) rfl ?_
  refine go_seq (go_set (ev_lstM (ea_nil ⟨by decide, fun f => ?_⟩)))
  walk_at "go"
  refine go_forR1 ?_
  walk_at "go"
  refine ⟨small_of (by omega) (by omega), I62 a f h bd n b, ⟨m, [], .no, .no, rfl, rfl, hp, Nat.le_refl _, trivial, hh⟩, ?_, ?_⟩
  · rintro i _ _ hi ⟨m', L, x, y, rfl, rfl, hpi, hL, hst, hh4⟩
    have hi : i < n := by omega
    refine go_mid (fun δ' μ' => ∃ (m2 : Mu) (v : Nat), δ' = [.va (.ref a), dI (hgtL h L : Nat), dI (bd : Nat), dI (n : Nat), .va (.ref f), dI (i : Nat), dI (v : Nat)] ∧ μ' = [(a, m2), (f, .lis ((L.map insD).map Sl.da))] ∧ Pw m2 (b + 2 * i + 1) ∧ v < 7) ?_ ?_
    · walk_at "go"
      refine ⟨a, m', _, 7, _, rfl, rfl, hpi, by omega, by decide, by decide, fun v m2 hv hp2 => ?_⟩
      exact ⟨m2, v, rfl, rfl, hp2, hv⟩
    rintro _ _ ⟨m2, v, rfl, rfl, hp2, hv⟩
    obtain ⟨hc, ehc⟩ : ∃ hc, hc = hgtL h L := ⟨_, rfl⟩
    have fin : ∀ (x : Ins) m3 z, Pw m3 (b + 2 * (i + 1)) → (x.need ≤ hgtL h L ∧ hgtL h L ≤ 40 ∧ (match x with | .dup i => 1 ≤ i | .swap i => 1 ≤ i | .pop => True)) → hgt x (hgtL h L) ≤ 40 →
        I62 a f h bd n b (i + 1) [.va (.ref a), dI (hgt x (hgtL h L) : Nat), dI (bd : Nat), dI (n : Nat), .va (.ref f), dI (i : Nat), z] [(a, m3), (f, .lis (((L.map insD).map Sl.da) ++ [.da (insD x)]))] := fun x m3 z h1 h2 h3 => by
      obtain ⟨q1, q2⟩ := hst.snoc h2
      refine ⟨m3, L ++ [x], _, _, by rw [q2], ?_, h1, by simp; omega, q1, by rw [q2]; exact h3⟩
      rw [List.map_append, List.map_append]; rfl
    have happ : ((L.map insD).map Sl.da).length < 100000 := by rw [List.length_map, List.length_map]; omega
    rw [← ehc] at fin hh4 ⊢
    refine go_if (eb_orP (eb_andP ?_))
    walk_at "go"
    refine ⟨decide (0 < hc), fun _ => ?_, ?_⟩
    · walk_at "go"
      exact ⟨decide_eq_decide.mpr (by omega), rfl⟩
    refine ⟨decide (39 < hc), fun _ => ?_, ?_⟩
    · walk_at "go"
      exact ⟨decide_eq_decide.mpr (by omega), rfl⟩
    refine ⟨fun h1 => ?_, fun h1 => ?_⟩
    · have h1' : 0 < hc := by
        simp only [Bool.or_eq_true, Bool.and_eq_true, decide_eq_true_eq] at h1
        omega
      walk_at "go"
      refine ev_app ?_
      walk_at "go"
      refine ⟨f, 1, _, rfl, rfl, ?_⟩
      walk_at "go"
      refine ⟨_, _, rfl, rfl, happ, ?_⟩
      walk_at "go"
      have := fin .pop m2 (dI (v : Nat)) (hp2.mono (by omega)) ⟨h1', hh4, trivial⟩ (by show hc - 1 ≤ 40; omega)
      rw [show ((hgt .pop hc : Nat) : Int) = (hc : Int) - 1 by show ((hc - 1 : Nat) : Int) = _; omega] at this
      exact this
    refine go_if (eb_andP ?_)
    walk_at "go"
    refine ⟨decide (0 < hc), fun _ => ?_, ?_⟩
    · walk_at "go"
      exact ⟨decide_eq_decide.mpr (by omega), rfl⟩
    have h1' : hc ≤ 39 := by
      simp only [Bool.or_eq_false_iff, decide_eq_false_iff_not] at h1
      omega
    refine ⟨fun h2 => ?_, fun h2 => ?_⟩
    · have h2' : 0 < hc := by
        simp only [Bool.and_eq_true, decide_eq_true_eq] at h2
        omega
      walk_at "go"
      refine ev_app ?_
      walk_at "go"
      refine ⟨f, 1, _, rfl, rfl, ?_⟩
      walk_at "go"
      rw [min_nat]
      refine ⟨a, m2, _, min hc bd, _, rfl, rfl, hp2, by omega, by omega, by omega, fun v2 m3 hv2 hp3 => ?_⟩
      walk_at "go"
      refine ⟨_, _, rfl, rfl, happ, ?_⟩
      walk_at "go"
      have := fin (.dup (1 + v2)) m3 (dI (v : Nat)) (hp3.mono (by omega)) ⟨by show 1 + v2 ≤ hc; omega, hh4, by show 1 ≤ 1 + v2; omega⟩ (by show hc + 1 ≤ 40; omega)
      rw [show ((hgt (.dup (1 + v2)) hc : Nat) : Int) = (hc : Int) + 1 from rfl] at this
      exact this
    refine go_if (eb_andP ?_)
    walk_at "go"
    refine ⟨decide (1 < hc), fun _ => ?_, ?_⟩
    · walk_at "go"
      exact ⟨decide_eq_decide.mpr (by omega), rfl⟩
    refine ⟨fun h3 => ?_, fun h3 => ?_⟩
    · have h3' : 1 < hc := by
        simp only [Bool.and_eq_true, decide_eq_true_eq] at h3
        omega
      walk_at "go"
      refine ev_app ?_
      walk_at "go"
      refine ⟨f, 1, _, rfl, rfl, ?_⟩
      walk_at "go"
      rw [show (hc : Int) - 1 = ((hc - 1 : Nat) : Int) by omega, min_nat]
      refine ⟨a, m2, _, min (hc - 1) bd, _, rfl, rfl, hp2, by omega, by omega, by omega, fun v2 m3 hv2 hp3 => ?_⟩
      walk_at "go"
      refine ⟨_, _, rfl, rfl, happ, ?_⟩
      walk_at "go"
      exact fin (.swap (1 + v2)) m3 (dI (v : Nat)) (hp3.mono (by omega)) ⟨by show 1 + v2 + 1 ≤ hc; omega, hh4, by show 1 ≤ 1 + v2; omega⟩ hh4
    · walk_at "go"
      rw [ehc]
      exact ⟨m2, L, _, _, rfl, rfl, hp2.mono (by omega), by omega, hst, by omega⟩
  · rintro _ _ ⟨m', L, x, y, rfl, rfl, hpi, hL, hst, hh4⟩
    refine go_ret (ev_frz ?_)
    walk_at "go"
    exact ⟨f, L.map insD, [(a, m')], rfl, rfl, by rw [eg]; simp, m', [], rfl, hpi.mono (by omega), hk L hst (by omega)⟩
end
end De
end
section
set_option Elab.async false
set_option linter.all false
set_option maxRecDepth 100000
set_option maxHeartbeats 4000000
/-! the law's moves, targets -/
namespace De
open PySem L2 PySem.Spec PyProof.Rows RZ
theorem cut_init {α : Type} (ss : List α) : cutD ss none (some (-1)) = ss.take (ss.length - 1) := by
  unfold cutD
  have : HT.sIx ss.length ss.length (some (-1)) = ss.length - 1 := by
    show (if (-1 : Int) < 0 then ((-1 : Int) + (ss.length : Int)).toNat else min (-1 : Int).toNat ss.length) = _
    rw [if_pos (by decide)]
    omega
  rw [this, HT.sIx_none, List.drop_zero, Nat.sub_zero]
theorem ixN_m1 {n : Nat} (h : 0 < n) : ixN n (-1) = some (n - 1) := by
  unfold ixN
  rw [if_neg (by decide), if_pos (by omega)]
  congr 1
  omega
theorem atI_m1 {α : Type} {xs : List α} {x : α} (h : xs[xs.length - 1]? = some x) : atI xs (-1) = some x := by
  have hl := (List.getElem?_eq_some_iff.mp h).1
  unfold atI
  rw [ixN_m1 (by omega)]
  exact h
section
variable {K : PySem.W.Frag} {g : Gr} {δ : List Sl} {μ : Mus} {k : Sl → Mus → Prop} {te ta to : TE} {tas : TA} {F : AE} {t u : TS}
theorem oc_tup_mS {ss : List Str} {j : Nat} {a : Addr} (h : μ[j]? = some (a, .lis (ss.map dS))) (q : k (.da (tS ss)) μ) : OpC K g δ (rTupF K) [.va (.ref a)] μ k := oc_tup_m (ds := ss.map PyData.str) (j := j) (by rw [h, List.map_map]; rfl) q
end
local macro_rules | `(tactic| walk_at "de") => `(tactic| first
  | with_reducible refine go_seq ?_
  | with_reducible refine go_set ?_
  | with_reducible refine go_asg ?_
  | with_reducible refine go_ret ?_
  | with_reducible refine go_if ?_
  | with_reducible refine go_next ?_
  | with_reducible refine go_drop ?_
  | ((with_reducible apply ev_da); exact rfl)
  | ((with_reducible apply ev_va); exact rfl)
  | with_reducible refine ev_c ?_
  | with_reducible refine ev_op ?_
  | with_reducible refine ev_un ?_
  | with_reducible refine ea_nil ?_
  | with_reducible refine ea_cons ?_
  | with_reducible refine ev_sortset ?_
  | ((with_reducible apply ev_cells); (focus assumption); (focus assumption))
  | ((with_reducible apply ev_reach); (focus assumption); (focus assumption))
  | ((with_reducible apply ev_made); (focus assumption); (focus assumption))
  | with_reducible refine ev_height ?_
  | ((with_reducible apply ev_methS); (focus (decide +kernel)); (focus (decide +kernel)); (focus (decide +kernel)))
  | with_reducible refine ev_callS ?_
  | with_reducible refine ev_count ?_
  | with_reducible refine ev_tcount ?_
  | with_reducible refine oc_len_c ?_
  | with_reducible refine ev_cb ?_
  | with_reducible refine eb_test ?_
  | with_reducible refine eb_B ?_
  | with_reducible refine eb_and ?_
  | with_reducible refine eb_or ?_
  | with_reducible refine eb_not ?_
  | with_reducible refine ev_andV ?_
  | with_reducible refine ev_orV ?_
  | with_reducible refine ev_notV ?_
  | with_reducible refine ev_if ?_
  | with_reducible refine ev_sl ?_
  | with_reducible refine eo_no ?_
  | with_reducible refine eo_some ?_
  | with_reducible refine ev_tup' ?_
  | with_reducible refine o_pen0 ?_
  | with_reducible refine o_pen1 ?_
  | with_reducible refine o_pen2 ?_
  | with_reducible refine ev_draw ?_
  | with_reducible refine ev_callX ?_
  | with_reducible refine ev_callP ?_
  | with_reducible refine ev_callNP ?_
  | with_reducible refine ev_call ?_
  | with_reducible refine ev_callN ?_
  | with_reducible refine ev_chain ?_
  | with_reducible refine o_I0 ?_
  | with_reducible refine o_eqI ?_
  | with_reducible refine o_neI ?_
  | with_reducible refine o_eqS ?_
  | with_reducible refine o_neS ?_
  | with_reducible refine o_isN ?_
  | with_reducible refine o_notN ?_
  | with_reducible refine o_ltS ?_
  | with_reducible refine o_U ?_
  | with_reducible refine oc_len_tS ?_
  | with_reducible refine oc_len_lS ?_
  | with_reducible refine oc_len_t ?_
  | with_reducible refine oc_len_l ?_
  | with_reducible refine o_ix0 ?_
  | with_reducible refine o_ix1 ?_
  | with_reducible refine ev_dnew ?_
  | with_reducible refine oc_isiT ?_
  | with_reducible refine oc_isiTL ?_
  | with_reducible refine oc_isiI ?_
  | with_reducible refine oc_isiIB ?_
  | with_reducible refine oc_isiS ?_
  | with_reducible refine oc_min2 ?_
  | with_reducible refine oc_max2 ?_
  | with_reducible refine oc_abs ?_
  | with_reducible refine oc_intB ?_
  | with_reducible refine oc_tup_lS ?_
  | with_reducible refine oc_tup_l ?_
  | with_reducible refine o_inF ?_
  | with_reducible refine o_inT ?_
  | with_reducible refine o_inLF ?_
  | with_reducible refine o_inLT ?_
  | with_reducible refine eb_yes ?_
  | (refine Exists.intro _ (Exists.intro _ (Exists.intro _ (Exists.intro _ (Exists.intro _ (Exists.intro _ (Exists.intro _ (Exists.intro _ (And.intro rfl (And.intro rfl ?_))))))))))
  | (refine Exists.intro _ (And.intro (show dats _ = some _ from rfl) (And.intro (show Nat.ble _ 60 = true from rfl) ?_)))
  | with_reducible refine Exists.intro _ (And.intro rfl ?_))
local macro_rules | `(tactic| walk_at "cx") => `(tactic| try simp only [cx_K, cx_K'])
local macro_rules | `(tactic| walk_at "go") => `(tactic| repeat walk_at "de")

section
variable {P : Program} {w : World} {K : PySem.W.Frag} {mg : Str → Option Value} {base : Heap}
theorem sc63 : FnScope ["_law_pile_here", "_law_step", "_law_cells", "_law_low", "_law_top"] ["_law_pile_here", "_law_step"] (defScope (topS 63)) := ⟨rfl, rfl, rfl, by decide +kernel, rfl, by decide +kernel, by decide +kernel⟩
def S63 : Spec := fun ws μ k => μ = [] ∧ ∃ (xs : List Str) (x : Ins), ws = [.da (tS xs), .da (insD x)] ∧ xs.length ≤ 1000 ∧ x.need ≤ xs.length ∧ (match x with | .dup i => 1 ≤ i | .swap i => 1 ≤ i | .pop => True) ∧
  ∀ ys : List Str, ys.length = hgt x xs.length → (∀ y, y ∈ ys → y ∈ xs) → k (.da (tS ys)) []
theorem ok63 (T : Tx K mg) : FnOk P w K mg base CX0 1 T.f63.a T.f63.d ["_law_pile_here", "_law_step"] (spG K S63) := by
  refine fn_go T.f63.F sc63 (fun ws μ k h => by obtain ⟨_, _, _, rfl, _⟩ := h; rfl) (fun cdv A outer s H E hr => ⟨_, (pss_cons (ps_set (i := 2) sc63.nd rfl (.inl rfl) (pe_callTy (r := Evl.rListS K) call_listS (by rfl) T.z_list (by decide +kernel) (pa_cons (pv 0) pa_nil)))
      (pss_cons (ps_if (pt_cmpR op_eq (pe_ix (r := rIx K) ix_seq (pv 1) pe_int (fun _ _ => rfl)) pe_str (nomark _)) (pss_one (ps_ret (pe_callTy (r := rTupF K) call_tupF (by rfl) T.z_tuple (by decide +kernel) (pa_cons (pe_slice (r := rSlL K) sl_list (pv 2) po_none (po_some (pe_un un_neg pe_int))) pa_nil)))) pss_nil)
      (pss_cons (ps_if (pt_cmpR op_eq (pe_ix (r := rIx K) ix_seq (pv 1) pe_int (fun _ _ => rfl)) pe_str (nomark _)) (pss_one (ps_ret (pe_callTy (r := rTupF K) call_tupF (by rfl) T.z_tuple (by decide +kernel) (pa_cons (pe_op op_cat (pv 2) (pe_lst (pa_cons (pe_ix (r := rIx K) ix_seq (pv 2) (pe_op op_sub (pe_callB (r := Evl.rLenS K) call_lenS (by rfl) T.z_len (by decide +kernel) (pa_cons (pv 2) pa_nil)) (pe_ix (r := rIx K) ix_seq (pv 1) pe_int (fun _ _ => rfl))) (fun _ _ => rfl)) pa_nil))) pa_nil)))) pss_nil)
      (pss_cons (ps_set (i := 3) sc63.nd rfl (.inl rfl) (pe_op op_sub (pe_op op_sub (pe_callB (r := Evl.rLenS K) call_lenS (by rfl) T.z_len (by decide +kernel) (pa_cons (pv 2) pa_nil)) pe_int) (pe_ix (r := rIx K) ix_seq (pv 1) pe_int (fun _ _ => rfl))))
      (pss_cons (ps_set (i := 4) sc63.nd rfl (.inl rfl) (pe_ix (r := rIx K) ix_seq (pv 2) (pe_un un_neg pe_int) (fun _ _ => rfl)))
      (pss_cons (ps_asg (pe_ix (r := rIx K) ix_seq (pv 2) (pv 3) (fun _ _ => rfl)) (pg_sub (pv 2) (pe_un un_neg pe_int) set_list))
      (pss_cons (ps_asg (pv 4) (pg_sub (pv 2) (pv 3) set_list))
      (pss_one (ps_ret (pe_callTy (r := rTupF K) call_tupF (by rfl) T.z_tuple (by decide +kernel) (pa_cons (pv 2) pa_nil))))))))))), fun g ws μ k eg h => ?_⟩)
  obtain ⟨rfl, xs, x, rfl, hl, hn, hv, hk⟩ := h
  have eg : g.ms = [] := eg
  walk_at "cx"
  refine Go.slots (δ' := [.da (tS xs), .da (insD x), .no, .no, .no]) rfl ?_
  have fin : ∀ (ys : List Str) (μ' : Mus), ys.length = hgt x xs.length → (∀ y, y ∈ ys → y ∈ xs) → (endAE g k).rt (.da (tS ys)) μ' := fun ys μ' h1 h2 => ⟨[], [], List.nil_sublist _, by rw [eg]; rfl, hk ys h1 h2⟩
  refine go_mid (fun δ' μ' => ∃ p, δ' = [.da (tS xs), .da (insD x), .va (.ref p), .no, .no] ∧ μ' = [(p, .lis (xs.map dS))]) ?_ ?_
  · walk_at "go"
    refine oc_list_t fun p => ?_
    exact ⟨p, rfl, by rw [List.map_map]; rfl⟩
  rintro _ _ ⟨p, rfl, rfl⟩
  cases x with
  | pop =>
    walk_at "go"
    refine ⟨fun _ => ?_, fun h => absurd h (by decide +kernel)⟩
    walk_at "go"
    refine os_lstM (j := 0) (ds := xs.map PyData.str) (by rw [List.map_map]; rfl) ?_
    rw [cut_map, cut_init]
    walk_at "go"
    exact fin _ _ (by rw [List.length_take]; show min _ _ = xs.length - 1; omega) fun y hy => List.mem_of_mem_take hy
  | dup i =>
    have hn : i ≤ xs.length := hn
    have hv : 1 ≤ i := hv
    walk_at "go"
    refine ⟨fun h => absurd h (by decide +kernel), fun _ => ?_⟩
    walk_at "go"
    refine ⟨fun _ => ?_, fun h => absurd h (by decide +kernel)⟩
    walk_at "go"
    refine ev_lstM ?_
    walk_at "go"
    refine oc_len_m (j := 0) rfl ?_
    walk_at "go"
    rw [List.length_map]
    have hlt : xs.length - i < xs.length := by omega
    refine o_ixM (j := 0) rfl (w := dS xs[xs.length - i]) (atI_ofNat (n := xs.length - i) (by show (xs.length : Int) - (i : Int) = _; omega) (by rw [List.getElem?_map, List.getElem?_eq_getElem hlt]; rfl)) ?_
    walk_at "go"
    refine ⟨by show 1 ≤ sizeLine; decide, fun q => ?_⟩
    walk_at "go"
    refine o_catM (i := 0) (j := 1) rfl rfl (by rw [List.length_map]; exact Nat.le_trans (show xs.length + 1 ≤ 1001 by omega) (by decide)) fun r => ?_
    walk_at "go"
    refine oc_tup_mS (ss := xs ++ [xs[xs.length - i]]) (j := 2) (by rw [List.map_append]; rfl) ?_
    refine fin _ _ (by rw [List.length_append]; rfl) fun y hy => ?_
    rcases List.mem_append.mp hy with h | h
    · exact h
    · rw [List.mem_singleton.mp h]; exact List.getElem_mem _
  | swap i =>
    have hn : i + 1 ≤ xs.length := hn
    have hv : 1 ≤ i := hv
    walk_at "go"
    refine ⟨fun h => absurd h (by decide +kernel), fun _ => ?_⟩
    walk_at "go"
    refine ⟨fun h => absurd h (by decide +kernel), fun _ => ?_⟩
    walk_at "go"
    refine oc_len_m (j := 0) rfl ?_
    walk_at "go"
    rw [List.length_map]
    have hlt : xs.length - 1 - i < xs.length := by omega
    have hlt2 : xs.length - 1 < xs.length := by omega
    have elow : (xs.length : Int) - 1 - (i : Int) = ((xs.length - 1 - i : Nat) : Int) := by omega
    have emid : (xs.map dS)[xs.length - 1 - i]? = some (dS xs[xs.length - 1 - i]) := by rw [List.getElem?_map, List.getElem?_eq_getElem hlt]; rfl
    have etop : (xs.map dS)[(xs.map dS).length - 1]? = some (dS xs[xs.length - 1]) := by rw [List.length_map, List.getElem?_map, List.getElem?_eq_getElem hlt2]; rfl
    refine o_ixM (j := 0) rfl (w := dS xs[xs.length - 1]) (atI_m1 etop) ?_
    walk_at "go"
    refine o_ixM (j := 0) rfl (w := dS xs[xs.length - 1 - i]) (atI_ofNat elow emid) ?_
    refine eg_sub ?_
    walk_at "go"
    refine ⟨p, 0, _, _, _, rfl, rfl, rfl, ixN_m1 (by rw [List.length_map]; omega), ?_⟩
    walk_at "go"
    refine eg_sub ?_
    walk_at "go"
    refine ⟨p, 0, _, _, _, rfl, rfl, rfl, ixN_of elow (by rw [List.length_set, List.length_map]; omega), ?_⟩
    walk_at "go"
    refine oc_tup_mS (ss := (xs.set (xs.length - 1) xs[xs.length - 1 - i]).set (xs.length - 1 - i) xs[xs.length - 1]) (j := 0) (by rw [List.map_set, List.map_set, List.length_map]; rfl) ?_
    refine fin _ _ (by rw [List.length_set, List.length_set]; rfl) fun y hy => ?_
    rcases List.mem_or_eq_of_mem_set hy with h | h
    · rcases List.mem_or_eq_of_mem_set h with h | h
      · exact h
      · rw [h]; exact List.getElem_mem _
    · rw [h]; exact List.getElem_mem _
end
end De
end
section
set_option Elab.async false
set_option linter.all false
set_option maxRecDepth 100000
set_option maxHeartbeats 4000000
/-! the law's targets -/
namespace De
open PySem L2 PySem.Spec PyProof.Rows RZ
section
variable {K : PySem.W.Frag} {g : Gr} {δ : List Sl} {μ : Mus} {k : Sl → Mus → Prop} {te ta to : TE} {tas : TA} {F : AE} {t u : TS}
theorem RlAll.erase {B : Hp} : ∀ {vs : List V} {ws : List Sl} (i : Nat), RlAll K B vs ws → RlAll K B (vs.eraseIdx i) (ws.eraseIdx i)
  | _, _, _, .nil => .nil
  | _, _, 0, .cons _ a => a
  | _, _, i + 1, .cons h a => .cons h (a.erase i)
theorem erase_map {α β : Type} (f : α → β) : ∀ (l : List α) (i : Nat), (l.map f).eraseIdx i = (l.eraseIdx i).map f
  | [], _ => rfl
  | _ :: _, 0 => rfl
  | a :: l, i + 1 => congrArg (f a :: ·) (erase_map f l i)
theorem Steps.at : ∀ {L : List Ins} {h i : Nat} {x : Ins}, Steps h L → L[i]? = some x → (x.need ≤ hgtL h (L.take i) ∧ hgtL h (L.take i) ≤ 40 ∧ (match x with | .dup i => 1 ≤ i | .swap i => 1 ≤ i | .pop => True)) ∧ hgtL h (L.take (i + 1)) = hgt x (hgtL h (L.take i))
  | [], _, _, _, _, e => by simp at e
  | y :: L, h, 0, x, hs, e => by
    simp at e
    subst e
    exact ⟨hs.1, rfl⟩
  | y :: L, h, i + 1, x, hs, e => by
    have := hs.2.at (i := i) (x := x) (by simpa using e)
    exact this
theorem ev_popAt (h : Ev K g δ μ ta fun w μ1 => ∃ (a : Addr) (j : Nat) (ws : List Sl), w = .va (.ref a) ∧ μ1[j]? = some (a, .lis ws) ∧ EvA K g δ μ1 tas fun us μ2 => ∃ (i : Nat) (ws2 : List Sl) (x : Sl), us = [dI (i : Nat)] ∧ μ2[j]? = some (a, .lis ws2) ∧ i < 100000 ∧ ws2[i]? = some x ∧ k x (μ2.set j (a, .lis (ws2.eraseIdx i)))) : Ev K g δ μ (tBM K "list" rPopAt ta tas) k :=
  ev_bm fun σ H B cc Q hq => h σ H B cc Q fun w μ1 v H1 B1 ⟨a, j, ws, e1, e2, x⟩ => hq w μ1 v H1 B1 ⟨by subst e1; exact ty_m e2, fun σ H B cc Q hq => x σ H B cc Q fun us μ2 vs H2 B2 ⟨i, ws2, y, e3, e4, hi, e5, hk⟩ => hq us μ2 vs H2 B2 (by
    subst e1 e3
    intro σ H B cc v vs r1 r2 Q hq
    cases (show v = _ from r1)
    obtain ⟨u, rfl, r3⟩ := rl1 r2
    cases dp_int r3
    obtain ⟨ys, h1, h2⟩ := cc.lis e4
    obtain ⟨z, hz, rz⟩ := h2.get e5
    have hlt := (List.getElem?_eq_some_iff.mp hz).1
    refine ⟨a, ys, i, i, z, rfl, rfl, h1, by omega, by omega, (ixN_seq (Evl.ixN_nat hlt)).1, hz, ?_⟩
    exact hq _ _ _ _ _ hk (cc.write e4 (o := .lst (ys.eraseIdx i)) (m' := .lis (ws2.eraseIdx i)) ⟨_, upd_same, h2.erase i⟩) Same.rfl' rz)⟩
end
local macro_rules | `(tactic| walk_at "de") => `(tactic| first
  | with_reducible refine go_seq ?_
  | with_reducible refine go_set ?_
  | with_reducible refine go_asg ?_
  | with_reducible refine go_ret ?_
  | with_reducible refine go_if ?_
  | with_reducible refine go_next ?_
  | with_reducible refine go_drop ?_
  | ((with_reducible apply ev_da); exact rfl)
  | ((with_reducible apply ev_va); exact rfl)
  | with_reducible refine ev_c ?_
  | with_reducible refine ev_op ?_
  | with_reducible refine ev_un ?_
  | with_reducible refine ea_nil ?_
  | with_reducible refine ea_cons ?_
  | with_reducible refine ev_sortset ?_
  | ((with_reducible apply ev_cells); (focus assumption); (focus assumption))
  | ((with_reducible apply ev_reach); (focus assumption); (focus assumption))
  | ((with_reducible apply ev_made); (focus assumption); (focus assumption))
  | with_reducible refine ev_height ?_
  | ((with_reducible apply ev_methS); (focus (decide +kernel)); (focus (decide +kernel)); (focus (decide +kernel)))
  | with_reducible refine ev_callS ?_
  | with_reducible refine ev_count ?_
  | with_reducible refine ev_tcount ?_
  | with_reducible refine oc_len_c ?_
  | with_reducible refine ev_cb ?_
  | with_reducible refine eb_test ?_
  | with_reducible refine eb_B ?_
  | with_reducible refine eb_and ?_
  | with_reducible refine eb_or ?_
  | with_reducible refine eb_not ?_
  | with_reducible refine ev_andV ?_
  | with_reducible refine ev_orV ?_
  | with_reducible refine ev_notV ?_
  | with_reducible refine ev_if ?_
  | with_reducible refine ev_sl ?_
  | with_reducible refine eo_no ?_
  | with_reducible refine eo_some ?_
  | with_reducible refine ev_tup' ?_
  | with_reducible refine o_pen0 ?_
  | with_reducible refine o_pen1 ?_
  | with_reducible refine o_pen2 ?_
  | with_reducible refine ev_draw ?_
  | with_reducible refine ev_callX ?_
  | with_reducible refine ev_callP ?_
  | with_reducible refine ev_callNP ?_
  | with_reducible refine ev_call ?_
  | with_reducible refine ev_callN ?_
  | with_reducible refine ev_chain ?_
  | with_reducible refine o_I0 ?_
  | with_reducible refine o_eqI ?_
  | with_reducible refine o_neI ?_
  | with_reducible refine o_eqS ?_
  | with_reducible refine o_neS ?_
  | with_reducible refine o_isN ?_
  | with_reducible refine o_notN ?_
  | with_reducible refine o_ltS ?_
  | with_reducible refine o_U ?_
  | with_reducible refine oc_len_tS ?_
  | with_reducible refine oc_len_lS ?_
  | with_reducible refine oc_len_t ?_
  | with_reducible refine oc_len_l ?_
  | with_reducible refine o_ix0 ?_
  | with_reducible refine o_ix1 ?_
  | with_reducible refine ev_dnew ?_
  | with_reducible refine oc_isiT ?_
  | with_reducible refine oc_isiTL ?_
  | with_reducible refine oc_isiI ?_
  | with_reducible refine oc_isiIB ?_
  | with_reducible refine oc_isiS ?_
  | with_reducible refine oc_min2 ?_
  | with_reducible refine oc_max2 ?_
  | with_reducible refine oc_abs ?_
  | with_reducible refine oc_intB ?_
  | with_reducible refine oc_tup_lS ?_
  | with_reducible refine oc_tup_l ?_
  | with_reducible refine o_inF ?_
  | with_reducible refine o_inT ?_
  | with_reducible refine o_inLF ?_
  | with_reducible refine o_inLT ?_
  | with_reducible refine eb_yes ?_
  | (refine Exists.intro _ (Exists.intro _ (Exists.intro _ (Exists.intro _ (Exists.intro _ (Exists.intro _ (Exists.intro _ (Exists.intro _ (And.intro rfl (And.intro rfl ?_))))))))))
  | (refine Exists.intro _ (And.intro (show dats _ = some _ from rfl) (And.intro (show Nat.ble _ 60 = true from rfl) ?_)))
  | with_reducible refine Exists.intro _ (And.intro rfl ?_))
local macro_rules | `(tactic| walk_at "cx") => `(tactic| try simp only [cx_K, cx_K'])
local macro_rules | `(tactic| walk_at "go") => `(tactic| repeat walk_at "de")

section
variable {P : Program} {w : World} {K : PySem.W.Frag} {mg : Str → Option Value} {base : Heap}
theorem sc64 : FnScope ["_law_pen_here", "_law_pool_here", "_law_pile_here", "_law_bound", "_law_way", "_law_cut", "_law_more", "_law_here", "_law_step", "_law_left", "_law_row", "_law_word", "_law_k"] ["_law_pen_here", "_law_pool_here", "_law_pile_here", "_law_bound"] (defScope (topS 64)) := ⟨rfl, rfl, rfl, by decide +kernel, rfl, by decide +kernel, by decide +kernel⟩
def R64 (args : List Sl) (Po : Sl → Prop) : Prop := ∃ (ss xs : List Str) (bd : Nat), args = [.da (lS ss), .da (tS xs), dI (bd : Nat)] ∧ 0 < ss.length ∧ ss.length < 1000 ∧ xs.length ≤ 26 ∧ 1 ≤ bd ∧ bd < 1000 ∧ ∀ ys : List Str, ys.length ≤ 40 → (∀ y, y ∈ ys → y ∈ ss ∨ y ∈ xs) → Po (.da (tS ys))
theorem ok64 (T : Tx K mg) : FnOk P w K mg base CX0 3 T.f64.a T.f64.d ["_law_pen_here", "_law_pool_here", "_law_pile_here", "_law_bound"] (spG K (Spn R64 70)) := by
  refine fn_go T.f64.F sc64 (pn_len fun args Po h => by obtain ⟨_, _, _, rfl, _⟩ := h; rfl) (fun cdv A outer s H E hr => ⟨_, (pss_cons (ps_set (i := 4) sc64.nd rfl (.inl rfl) (pe_call (ok59 T) (hr.mono (by decide)) (by rfl) T.f59.g T.f59.F.kp T.f59.b .nil pass0 (pa_cons (pv 0) (pa_cons pe_int pa_nil))))
      (pss_cons (ps_set (i := 5) sc64.nd rfl (.inl rfl) (pe_call (ok59 T) (hr.mono (by decide)) (by rfl) T.f59.g T.f59.F.kp T.f59.b .nil pass0 (pa_cons (pv 0) (pa_cons (pe_op op_add (pe_callB (r := Evl.rLenS K) call_lenS (by rfl) T.z_len (by decide +kernel) (pa_cons (pv 2) pa_nil)) pe_int) pa_nil))))
      (pss_cons (ps_set (i := 6) sc64.nd rfl (.inl rfl) (pe_callTy (r := rTupF K) call_tupF (by rfl) T.z_tuple (by decide +kernel) (pa_cons (pe_lc (g := gName 12) (tt := tYes) (own := [("_law_k", 12)]) rfl sc64.nd (pi_range1 rfl T.z_range (pa_cons (pe_call (ok59 T) (hr.mono (by decide)) (by rfl) T.f59.g T.f59.F.kp T.f59.b .nil pass0 (pa_cons (pv 0) (pa_cons pe_int pa_nil))) pa_nil)) (blkOk_by (N := ["_law_pen_here", "_law_pool_here", "_law_pile_here", "_law_bound", "_law_way", "_law_cut", "_law_more", "_law_here", "_law_step", "_law_left", "_law_row", "_law_word", "_law_k"]) (sc := defScope (topS 64)) (own := [("_law_k", 12)]) (by decide +kernel)) (fun _ _ _ _ _ => pg_name (i := 12) sc64.nd rfl (.inl rfl)) (fun _ _ _ _ _ => pts_nil) (fun _ _ _ _ _ => pe_ix (r := rIx K) ix_seq (pv 1) (pe_call (ok59 T) (hr.mono (by decide)) (by rfl) T.f59.g T.f59.F.kp T.f59.b .nil pass0 (pa_cons (pv 0) (pa_cons (pe_callB (r := Evl.rLenS K) call_lenS (by rfl) T.z_len (by decide +kernel) (pa_cons (pv 1) pa_nil)) pa_nil))) (fun _ _ => rfl))) pa_nil)))
      (pss_cons (ps_if (pt_cmpR op_eq (pv 4) pe_int (nomark _)) (pss_one (ps_ret (pv 6))) pss_nil)
      (pss_cons (ps_if (pt_cmpR op_eq (pv 4) pe_int (nomark _)) (pss_one (ps_ret (pe_op (r := rCatF K) op_catF (pe_slice (r := rSlF K) sl_tupF (pv 2) po_none (po_some (pv 5))) (pv 6)))) pss_nil)
      (pss_cons (ps_if (pt_cmpR op_eq (pv 4) pe_int (nomark _)) (pss_one (ps_ret (pe_op (r := rCatF K) op_catF (pe_slice (r := rSlF K) sl_tupF (pv 2) po_none (po_some (pv 5))) (pe_slice (r := rSlF K) sl_tupF (pv 2) (po_some (pe_op op_add (pv 5) pe_int)) po_none)))) pss_nil)
      (pss_cons (ps_if (pt_cmpR op_eq (pv 4) pe_int (nomark _)) (pss_cons (ps_set (i := 9) sc64.nd rfl (.inr rfl) (pe_callTy (r := Evl.rListS K) call_listS (by rfl) T.z_list (by decide +kernel) (pa_cons (pe_slice (r := rSlF K) sl_tupF (pv 2) (po_some (pv 5)) po_none) pa_nil)))
      (pss_cons (ps_setLc (i := 10) (g := gName 12) (tt := tYes) (own := [("_law_k", 12)]) rfl sc64.nd rfl rfl (sw_true rfl rfl rfl (by decide +kernel)) (pi_range1 rfl T.z_range (pa_cons (pe_callB (r := Evl.rLenS K) call_lenS (by rfl) T.z_len (by decide +kernel) (pa_cons (pv 9) pa_nil)) pa_nil)) (blkOk_by (N := ["_law_pen_here", "_law_pool_here", "_law_pile_here", "_law_bound", "_law_way", "_law_cut", "_law_more", "_law_here", "_law_step", "_law_left", "_law_row", "_law_word", "_law_k"]) (sc := defScope (topS 64)) (own := [("_law_k", 12)]) (by decide +kernel)) (fun _ _ _ _ _ => pg_name (i := 12) sc64.nd rfl (.inl rfl)) (fun _ _ _ _ _ => pts_nil) (fun _ _ _ _ _ => pe_bmK (K := K) rfl PySem.F.plainAttrs_list PySem.F.slot_list_pop PySem.F.type_list_pop mt_popAt (pv 9) (pa_cons (pe_call (ok59 T) (hr.mono (by decide)) (by rfl) T.f59.g T.f59.F.kp T.f59.b .nil pass0 (pa_cons (pv 0) (pa_cons (pe_callB (r := Evl.rLenS K) call_lenS (by rfl) T.z_len (by decide +kernel) (pa_cons (pv 9) pa_nil)) pa_nil))) pa_nil)))
      (pss_one (ps_ret (pe_op (r := rCatF K) op_catF (pe_slice (r := rSlF K) sl_tupF (pv 2) po_none (po_some (pv 5))) (pe_callTy (r := rTupF K) call_tupF (by rfl) T.z_tuple (by decide +kernel) (pa_cons (pv 10) pa_nil))))))) pss_nil)
      (pss_cons (ps_if (PW.pt (pw_and (pt_cmpR op_eq (pv 4) pe_int (nomark _)) (pw_and1 (pt_cmpR op_lt (pv 5) (pe_callB (r := Evl.rLenS K) call_lenS (by rfl) T.z_len (by decide +kernel) (pa_cons (pv 2) pa_nil)) (nomark _))))) (pss_cons (ps_set (i := 11) sc64.nd rfl (.inl rfl) (pe_ix (r := rIx K) ix_seq (pv 1) (pe_call (ok59 T) (hr.mono (by decide)) (by rfl) T.f59.g T.f59.F.kp T.f59.b .nil pass0 (pa_cons (pv 0) (pa_cons (pe_callB (r := Evl.rLenS K) call_lenS (by rfl) T.z_len (by decide +kernel) (pa_cons (pv 1) pa_nil)) pa_nil))) (fun _ _ => rfl)))
      (pss_one (ps_ret (pe_op (r := rCatF K) op_catF (pe_op (r := rCatF K) op_catF (pe_op (r := rCatF K) op_catF (pe_slice (r := rSlF K) sl_tupF (pv 2) po_none (po_some (pv 5))) (pe_tupF (pa_cons (pv 11) pa_nil))) (pe_slice (r := rSlF K) sl_tupF (pv 2) (po_some (pe_op op_add (pv 5) pe_int)) po_none)) (pe_slice (r := rSlF K) sl_tupF (pv 6) po_none (po_some pe_int)))))) pss_nil)
      (pss_cons (ps_if (pt_cmpR op_eq (pv 4) pe_int (nomark _)) (pss_one (ps_ret (pe_op (r := rCatF K) op_catF (pe_op (r := rCatF K) op_catF (pe_slice (r := rSlF K) sl_tupF (pv 2) po_none (po_some (pv 5))) (pe_callTy (r := rTupF K) call_tupF (by rfl) T.z_tuple (by decide +kernel) (pa_cons (pe_callB (r := rSortedTx P w) (call_sortedTx rfl) (by rfl) T.z_sorted (by decide +kernel) (pa_cons (pe_callTy (r := rSetTx K P w) (call_setTx rfl) (by rfl) T.z_set (by decide +kernel) (pa_cons (pe_slice (r := rSlF K) sl_tupF (pv 2) (po_some (pv 5)) po_none) pa_nil)) pa_nil)) pa_nil))) (pe_slice (r := rSlF K) sl_tupF (pv 6) po_none (po_some pe_int))))) pss_nil)
      (pss_cons (ps_set (i := 7) sc64.nd rfl (.inl rfl) (pv 2))
      (pss_cons (ps_for PassesOwn.never rfl (pi_list (pe_call (ok62 T) (hr.mono (by decide)) (by rfl) T.f62.g T.f62.F.kp T.f62.b .nil pass0 (pa_cons (pv 0) (pa_cons (pe_callB (r := Evl.rLenS K) call_lenS (by rfl) T.z_len (by decide +kernel) (pa_cons (pv 2) pa_nil)) (pa_cons (pv 3) (pa_cons (pe_call (ok59 T) (hr.mono (by decide)) (by rfl) T.f59.g T.f59.F.kp T.f59.b .nil pass0 (pa_cons (pv 0) (pa_cons pe_int pa_nil))) pa_nil)))))) (pg_name (i := 8) sc64.nd rfl (.inl rfl)) (pss_one (ps_set (i := 7) sc64.nd rfl (.inl rfl) (pe_call (ok63 T) (hr.mono (by decide)) (by rfl) T.f63.g T.f63.F.kp T.f63.b .nil pass0 (pa_cons (pv 7) (pa_cons (pv 8) pa_nil))))))
      (pss_one (ps_ret (pe_slice (r := rSlF K) sl_tupF (pv 7) po_none (po_some pe_int))))))))))))))), fun g ws μ k eg h => ?_⟩)
  refine pn_go eg h fun a m b args Po hR hp hb eg => ?_
  obtain ⟨ss, xs, bd, rfl, h0, h1, hxs, hbd, hbd2, hk⟩ := hR
  walk_at "cx"
  refine Go.slots (δ' := [.va (.ref a), .da (lS ss), .da (tS xs), dI (bd : Nat), .no, .no, .no, .no, .no, .no, .no, .no, .no]) rfl ?_
  have fin : ∀ (ys : List Str) m' rest, Pw m' (b + 70) → ys.length ≤ 40 → (∀ y, y ∈ ys → y ∈ ss ∨ y ∈ xs) → (pnAE a (b + 70) Po).rt (.da (tS ys)) ((a, m') :: rest) := fun ys m' rest h1 h2 h3 => ⟨m', rest, rfl, h1, hk ys h2 h3⟩
  refine go_mid (fun δ' μ' => ∃ (m' : Mu) (v : Nat), δ' = [.va (.ref a), .da (lS ss), .da (tS xs), dI (bd : Nat), dI (v : Nat), .no, .no, .no, .no, .no, .no, .no, .no] ∧ μ' = [(a, m')] ∧ Pw m' (b + 1)) ?_ ?_
  · walk_at "go"
    refine ⟨a, m, _, 7, _, rfl, rfl, hp, by omega, by decide, by decide, fun v m1 hv hp1 => ?_⟩
    exact ⟨m1, v, rfl, rfl, hp1⟩
  rintro _ _ ⟨m1, v, rfl, rfl, hp1⟩
  refine go_mid (fun δ' μ' => ∃ (m' : Mu) (c : Nat), δ' = [.va (.ref a), .da (lS ss), .da (tS xs), dI (bd : Nat), dI (v : Nat), dI (c : Nat), .no, .no, .no, .no, .no, .no, .no] ∧ μ' = [(a, m')] ∧ Pw m' (b + 2) ∧ c ≤ xs.length) ?_ ?_
  · walk_at "go"
    refine ⟨a, m1, _, xs.length + 1, _, rfl, rfl, hp1, by omega, by omega, by omega, fun c m2 hc hp2 => ?_⟩
    exact ⟨m2, c, rfl, rfl, hp2, by omega⟩
  rintro _ _ ⟨m2, c, rfl, rfl, hp2, hc⟩
  refine go_mid (fun δ' μ' => ∃ (m' : Mu) (mo : List Str), δ' = [.va (.ref a), .da (lS ss), .da (tS xs), dI (bd : Nat), dI (v : Nat), dI (c : Nat), .da (tS mo), .no, .no, .no, .no, .no, .no] ∧ μ' = [(a, m')] ∧ Pw m' (b + 15) ∧ mo.length ≤ 12 ∧ ∀ x, x ∈ mo → x ∈ ss) ?_ ?_
  · walk_at "go"
    refine ev_picks (by simp) ?_
    walk_at "go"
    refine ⟨a, m2, _, 13, _, rfl, rfl, hp2, by omega, by decide, by decide, fun n m3 hn hp3 => ?_⟩
    walk_at "go"
    refine ⟨n, a, m3, b + 2 + 1, [], ss, rfl, by omega, rfl, hp3, by omega, h0, h1, fun _ => rfl, fun _ => rfl, by rw [eg]; simp, fun m4 mo hp4 hl hx => ?_⟩
    walk_at "go"
    exact ⟨m4, mo, rfl, rfl, hp4.mono (by omega), by omega, hx⟩
  rintro _ _ ⟨m3, mo, rfl, rfl, hp3, hmo, hmx⟩
  walk_at "go"
  refine ⟨fun q0 => ?_, fun q0 => ?_⟩
  · walk_at "go"
    exact fin _ _ _ (hp3.mono (by omega)) (by omega) fun y hy => .inl (hmx y hy)
  walk_at "go"
  refine ⟨fun q1 => ?_, fun q1 => ?_⟩
  · walk_at "go"
    refine os_to rfl ?_
    walk_at "go"
    refine o_catS (by rw [List.length_take]; omega) ?_
    refine fin _ _ _ (hp3.mono (by omega)) (by rw [List.length_append, List.length_take]; omega) fun y hy => ?_
    rcases List.mem_append.mp hy with h | h
    · exact .inr (List.mem_of_mem_take h)
    · exact .inl (hmx y h)
  walk_at "go"
  refine ⟨fun q2 => ?_, fun q2 => ?_⟩
  · walk_at "go"
    refine os_to rfl ?_
    walk_at "go"
    refine os_from (n := c + 1) (by omega) ?_
    refine o_catS (by rw [List.length_take, List.length_drop]; omega) ?_
    refine fin _ _ _ (hp3.mono (by omega)) (by rw [List.length_append, List.length_take, List.length_drop]; omega) fun y hy => ?_
    rcases List.mem_append.mp hy with h | h
    · exact .inr (List.mem_of_mem_take h)
    · exact .inr (List.mem_of_mem_drop h)
  walk_at "go"
  refine ⟨fun q3 => ?_, fun q3 => ?_⟩
  · walk_at "go"
    refine os_from rfl ?_
    walk_at "go"
    obtain ⟨ls, els⟩ : ∃ ls, ls = xs.drop c := ⟨_, rfl⟩
    have hls : ls.length ≤ 26 := by rw [els, List.length_drop]; omega
    have hlx : ∀ x, x ∈ ls → x ∈ xs := fun x hx => List.mem_of_mem_drop (els ▸ hx)
    have hlc : c + ls.length = xs.length := by rw [els, List.length_drop]; omega
    rw [← els]
    refine oc_list_t fun p => ?_
    walk_at "go"
    refine ev_frz (ev_lcR1 (by simp) ?_)
    walk_at "go"
    refine oc_len_m (j := 1) rfl ?_
    walk_at "go"
    rw [List.length_map, List.length_map]
    refine ⟨small_of (by omega) (by omega), fun i acc μ' => ∃ (m' : Mu) (l r : List Str), acc = r.map dS ∧ μ' = [(a, m'), (p, .lis (l.map dS))] ∧ Pw m' (b + 15 + i) ∧ l.length + i = ls.length ∧ r.length = i ∧ (∀ x, x ∈ l → x ∈ xs) ∧ ∀ x, x ∈ r → x ∈ xs, by omega, ⟨m3, ls, [], rfl, by rw [List.map_map]; rfl, hp3, rfl, rfl, hlx, fun _ h => (by cases h)⟩, ?_, ?_⟩
    · rintro i _ _ hi ⟨m4, l, r, rfl, rfl, hp4, hll, hrl, hlx, hrx⟩ Dl
      have hi : i < ls.length := by omega
      refine eb_yes ⟨[(a, m4), (p, .lis (l.map dS))], rfl, fun _ => ?_, fun h => (by cases h)⟩
      refine ev_popAt ?_
      walk_at "go"
      refine ⟨p, 1, _, rfl, rfl, ?_⟩
      walk_at "go"
      refine oc_len_m (j := 1) rfl ?_
      walk_at "go"
      rw [List.length_map]
      refine ⟨a, m4, _, l.length, _, rfl, rfl, hp4, by omega, by omega, by omega, fun u m5 hu hp5 => ?_⟩
      walk_at "go"
      refine ⟨u, _, dS l[u], rfl, rfl, by omega, by rw [List.getElem?_map, List.getElem?_eq_getElem hu]; rfl, ?_⟩
      refine ⟨[(a, m5), (p, .lis ((l.map dS).eraseIdx u))], rfl, m5, l.eraseIdx u, r ++ [l[u]], by rw [List.map_append]; rfl, by rw [erase_map], hp5, ?_, by simp; omega, fun x hx => hlx x (List.mem_of_mem_eraseIdx hx), fun x hx => ?_⟩
      · rw [List.length_eraseIdx_of_lt hu]; omega
      · rcases List.mem_append.mp hx with h | h
        · exact hrx x h
        · rw [List.mem_singleton.mp h]; exact hlx _ (List.getElem_mem _)
    · rintro _ _ ⟨m4, l, r, rfl, rfl, hp4, hll, hrl, hlx, hrx⟩ q
      refine ⟨q, r.map PyData.str, [(a, m4), (p, .lis (l.map dS))], rfl, by rw [List.map_map]; rfl, by rw [eg]; simp, ?_⟩
      walk_at "go"
      refine os_to rfl ?_
      walk_at "go"
      refine o_catS (by rw [List.length_take]; omega) ?_
      refine fin _ _ _ (hp4.mono (by omega)) (by rw [List.length_append, List.length_take]; omega) fun y hy => ?_
      rcases List.mem_append.mp hy with h | h
      · exact .inr (List.mem_of_mem_take h)
      · exact .inr (hrx y h)
  refine go_next (go_mid (fun δ' μ' => δ' = [.va (.ref a), .da (lS ss), .da (tS xs), dI (bd : Nat), dI (v : Nat), dI (c : Nat), .da (tS mo), .no, .no, .no, .no, .no, .no] ∧ μ' = [(a, m3)]) ?_ ?_)
  · walk_at "go"
    refine ⟨fun q4 => ?_, fun q4 => ?_⟩
    · walk_at "go"
      refine ⟨fun q5 => ?_, fun q5 => ?_⟩
      · walk_at "go"
        refine ⟨a, m3, _, ss.length, _, rfl, rfl, hp3, by omega, h0, h1, fun u m4 hu hp4 => ?_⟩
        refine o_ixL (d := .str ss[u]) (atI_ofNat rfl (by rw [List.getElem?_map, List.getElem?_eq_getElem hu]; rfl)) ?_
        walk_at "go"
        refine os_to rfl ?_
        walk_at "go"
        refine o_catS (ts := [ss[u]]) (by rw [List.length_take]; simp; omega) ?_
        walk_at "go"
        refine os_from (n := c + 1) (by omega) ?_
        refine o_catS (by rw [List.length_append, List.length_take, List.length_drop]; simp; omega) ?_
        walk_at "go"
        refine os_to (n := 3) rfl ?_
        refine o_catS (by rw [List.length_append, List.length_append, List.length_take, List.length_take, List.length_drop]; simp; omega) ?_
        refine fin _ _ _ (hp4.mono (by omega)) (by rw [List.length_append, List.length_append, List.length_append, List.length_take, List.length_take, List.length_drop]; simp; omega) fun y hy => ?_
        rcases List.mem_append.mp hy with h | h
        · rcases List.mem_append.mp h with h | h
          · rcases List.mem_append.mp h with h | h
            · exact .inr (List.mem_of_mem_take h)
            · rw [List.mem_singleton.mp h]; exact .inl (List.getElem_mem _)
          · exact .inr (List.mem_of_mem_drop h)
        · exact .inl (hmx y (List.mem_of_mem_take h))
      · walk_at "go"
        exact ⟨rfl, rfl⟩
    · refine ⟨fun h => (by cases h), fun _ => ?_⟩
      walk_at "go"
      exact ⟨rfl, rfl⟩
  rintro _ _ ⟨rfl, rfl⟩
  walk_at "go"
  refine ⟨fun q6 => ?_, fun q6 => ?_⟩
  · walk_at "go"
    refine os_to rfl ?_
    walk_at "go"
    refine os_from rfl ?_
    walk_at "go"
    refine ⟨by rw [List.length_drop]; omega, ?_⟩
    have hdl : (dist ltS (xs.drop c)).length ≤ xs.length - c := by
      have := nd_le ltS_ord (xs.drop c)
      rw [List.length_drop] at this
      exact this
    walk_at "go"
    refine o_catS (by rw [List.length_take]; omega) ?_
    walk_at "go"
    refine os_to (n := 2) rfl ?_
    refine o_catS (by rw [List.length_append, List.length_take, List.length_take]; omega) ?_
    refine fin _ _ _ (hp3.mono (by omega)) (by rw [List.length_append, List.length_append, List.length_take, List.length_take]; omega) fun y hy => ?_
    rcases List.mem_append.mp hy with h | h
    · rcases List.mem_append.mp h with h | h
      · exact .inr (List.mem_of_mem_take h)
      · exact .inr (List.mem_of_mem_drop (mem_dist.mp h))
    · exact .inl (hmx y (List.mem_of_mem_take h))
  refine go_next (go_seq (go_set (ev_da rfl (go_seq (go_forL (ev_pn ?_))))))
  walk_at "go"
  refine ⟨a, m3, _, 25, _, rfl, rfl, hp3, by omega, by decide, by decide, fun n m4 hn hp4 => ?_⟩
  walk_at "go"
  refine ⟨a, m4, b + 15 + 1, _, [], rfl, rfl, hp4, by omega, fun w => ∃ L : List Ins, w = dL (L.map insD) ∧ Steps xs.length L ∧ L.length ≤ n, ⟨xs.length, bd, n, rfl, by omega, hbd, hbd2, by omega, fun L h1 h2 => ⟨L, rfl, h1, h2⟩⟩, ?_⟩
  rintro w m5 ⟨L, rfl, hst, hL⟩ hp5
  refine ⟨_, rfl, fun i δ' μ' => ∃ (ys : List Str) (x : Sl), δ' = [.va (.ref a), .da (lS ss), .da (tS xs), dI (bd : Nat), dI (v : Nat), dI (c : Nat), .da (tS mo), .da (tS ys), x, .no, .no, .no, .no] ∧ μ' = [(a, m5)] ∧ ys.length = hgtL xs.length (L.take i) ∧ ∀ y, y ∈ ys → y ∈ xs, ⟨xs, .no, rfl, rfl, rfl, fun _ h => h⟩, ?_, ?_⟩
  · rintro i _ _ hi ⟨ys, x, rfl, rfl, hyl, hyx⟩ d hd
    rw [List.length_map] at hi
    rw [List.getElem?_map, List.getElem?_eq_getElem hi] at hd
    cases hd
    obtain ⟨⟨z1, z2, z3⟩, z4⟩ := hst.at (List.getElem?_eq_getElem hi)
    walk_at "go"
    refine ⟨[], [], rfl, List.nodup_nil, fun w m => m = [] ∧ ∃ zs : List Str, w = .da (tS zs) ∧ zs.length = hgt L[i] ys.length ∧ ∀ z, z ∈ zs → z ∈ ys, ⟨rfl, ys, L[i], rfl, by omega, by omega, z3, fun zs h1 h2 => ⟨rfl, zs, rfl, h1, h2⟩⟩, ?_⟩
    rintro w _ news _ ⟨rfl, zs, rfl, e1, e2⟩
    refine ⟨zs, _, rfl, rfl, by rw [z4, e1, hyl], fun z hz => hyx z (e2 z hz)⟩
  · rintro _ _ ⟨ys, x, rfl, rfl, hyl, hyx⟩
    walk_at "go"
    refine os_to (n := 40) rfl ?_
    exact fin _ _ _ (hp5.mono (by omega)) (by rw [List.length_take]; omega) fun y hy => .inr (hyx y (List.mem_of_mem_take hy))
end
end De
end
section
set_option Elab.async false
set_option linter.all false
set_option maxRecDepth 100000
set_option maxHeartbeats 4000000
/-! the law's scene -/
namespace De
open PySem L2 PySem.Spec PyProof.Rows RZ
section
variable {K : PySem.W.Frag} {g : Gr} {δ : List Sl} {μ : Mus} {k : Sl → Mus → Prop}
/-- [n, ..][v] -/
theorem o_pick {ns : List Nat} {v : Nat} {ds : List PyData} (e : ds = ns.map fun (n : Nat) => PyData.int (n : Nat)) (hv : v < ns.length) (q : ∀ n : Nat, n ∈ ns → k (dI (n : Nat)) μ) : Op2 K g δ (rIx K) (dL ds) (dI (v : Nat)) μ k :=
  o_ixL (d := .int (ns[v] : Nat)) (atI_ofNat rfl (by rw [e, List.getElem?_map, List.getElem?_eq_getElem hv]; rfl)) (q _ (List.getElem_mem _))
end
local macro_rules | `(tactic| walk_at "de") => `(tactic| first
  | with_reducible refine go_seq ?_
  | with_reducible refine go_set ?_
  | with_reducible refine go_asg ?_
  | with_reducible refine go_ret ?_
  | with_reducible refine go_if ?_
  | with_reducible refine go_next ?_
  | with_reducible refine go_drop ?_
  | ((with_reducible apply ev_da); exact rfl)
  | ((with_reducible apply ev_va); exact rfl)
  | with_reducible refine ev_c ?_
  | with_reducible refine ev_op ?_
  | with_reducible refine ev_un ?_
  | with_reducible refine ea_nil ?_
  | with_reducible refine ea_cons ?_
  | with_reducible refine ev_sortset ?_
  | ((with_reducible apply ev_cells); (focus assumption); (focus assumption))
  | ((with_reducible apply ev_reach); (focus assumption); (focus assumption))
  | ((with_reducible apply ev_made); (focus assumption); (focus assumption))
  | with_reducible refine ev_height ?_
  | ((with_reducible apply ev_methS); (focus (decide +kernel)); (focus (decide +kernel)); (focus (decide +kernel)))
  | with_reducible refine ev_callS ?_
  | with_reducible refine ev_count ?_
  | with_reducible refine ev_tcount ?_
  | with_reducible refine oc_len_c ?_
  | with_reducible refine ev_cb ?_
  | with_reducible refine eb_test ?_
  | with_reducible refine eb_B ?_
  | with_reducible refine eb_and ?_
  | with_reducible refine eb_or ?_
  | with_reducible refine eb_not ?_
  | with_reducible refine ev_andV ?_
  | with_reducible refine ev_orV ?_
  | with_reducible refine ev_notV ?_
  | with_reducible refine ev_if ?_
  | with_reducible refine ev_sl ?_
  | with_reducible refine eo_no ?_
  | with_reducible refine eo_some ?_
  | with_reducible refine ev_tup' ?_
  | with_reducible refine o_pen0 ?_
  | with_reducible refine o_pen1 ?_
  | with_reducible refine o_pen2 ?_
  | with_reducible refine ev_draw ?_
  | with_reducible refine ev_callX ?_
  | with_reducible refine ev_callP ?_
  | with_reducible refine ev_callNP ?_
  | with_reducible refine ev_call ?_
  | with_reducible refine ev_callN ?_
  | with_reducible refine ev_chain ?_
  | with_reducible refine o_I0 ?_
  | with_reducible refine o_eqI ?_
  | with_reducible refine o_neI ?_
  | with_reducible refine o_eqS ?_
  | with_reducible refine o_neS ?_
  | with_reducible refine o_isN ?_
  | with_reducible refine o_notN ?_
  | with_reducible refine o_ltS ?_
  | with_reducible refine o_U ?_
  | with_reducible refine oc_len_tS ?_
  | with_reducible refine oc_len_lS ?_
  | with_reducible refine oc_len_t ?_
  | with_reducible refine oc_len_l ?_
  | with_reducible refine o_ix0 ?_
  | with_reducible refine o_ix1 ?_
  | with_reducible refine ev_dnew ?_
  | with_reducible refine oc_isiT ?_
  | with_reducible refine oc_isiTL ?_
  | with_reducible refine oc_isiI ?_
  | with_reducible refine oc_isiIB ?_
  | with_reducible refine oc_isiS ?_
  | with_reducible refine oc_min2 ?_
  | with_reducible refine oc_max2 ?_
  | with_reducible refine oc_abs ?_
  | with_reducible refine oc_intB ?_
  | with_reducible refine oc_tup_lS ?_
  | with_reducible refine oc_tup_l ?_
  | with_reducible refine o_inF ?_
  | with_reducible refine o_inT ?_
  | with_reducible refine o_inLF ?_
  | with_reducible refine o_inLT ?_
  | with_reducible refine eb_yes ?_
  | (refine Exists.intro _ (Exists.intro _ (Exists.intro _ (Exists.intro _ (Exists.intro _ (Exists.intro _ (Exists.intro _ (Exists.intro _ (And.intro rfl (And.intro rfl ?_))))))))))
  | (refine Exists.intro _ (And.intro (show dats _ = some _ from rfl) (And.intro (show Nat.ble _ 60 = true from rfl) ?_)))
  | with_reducible refine Exists.intro _ (And.intro rfl ?_))
local macro_rules | `(tactic| walk_at "cx") => `(tactic| try simp only [cx_K, cx_K'])
local macro_rules | `(tactic| walk_at "go") => `(tactic| repeat walk_at "de")

section
variable {P : Program} {w : World} {K : PySem.W.Frag} {mg : Str → Option Value} {base : Heap}
theorem sc65 : FnScope ["_law_pen_here", "_law_pool_here", "_law_pile_here", "_law_bound"] ["_law_pen_here"] (defScope (topS 65)) := ⟨rfl, rfl, rfl, by decide +kernel, rfl, by decide +kernel, by decide +kernel⟩
structure Scn (ss xs ys : List Str) (bd : Nat) : Prop where
  s0 : 0 < ss.length
  s1 : ss.length ≤ 12
  ok : ∀ s, s ∈ ss → okS s = true
  x1 : xs.length ≤ 26
  xm : ∀ x, x ∈ xs → x ∈ ss
  y1 : ys.length ≤ 40
  ym : ∀ y, y ∈ ys → y ∈ ss
  b0 : 2 ≤ bd
  b1 : bd ≤ 40
def R65 (args : List Sl) (Po : Sl → Prop) : Prop := args = [] ∧ ∀ (ss xs ys : List Str) (bd : Nat), Scn ss xs ys bd → Po (dL [lS ss, tS xs, .int (bd : Nat), tS ys])
theorem ok65 (T : Tx K mg) : FnOk P w K mg base CX0 4 T.f65.a T.f65.d ["_law_pen_here"] (spG K (Spn R65 215)) := by
  refine fn_go T.f65.F sc65 (pn_len fun args Po h => by obtain ⟨rfl, _⟩ := h; rfl) (fun cdv A outer s H E hr => ⟨_, (pss_cons (ps_set (i := 1) sc65.nd rfl (.inl rfl) (pe_call (ok60 T) (hr.mono (by decide)) (by rfl) T.f60.g T.f60.F.kp T.f60.b .nil pass0 (pa_cons (pv 0) (pa_cons (pe_ix (r := rIx K) ix_seq (pe_lst (pa_cons (pe_op op_add pe_int (pe_call (ok59 T) (hr.mono (by decide)) (by rfl) T.f59.g T.f59.F.kp T.f59.b .nil pass0 (pa_cons (pv 0) (pa_cons pe_int pa_nil)))) (pa_cons (pe_op op_add pe_int (pe_call (ok59 T) (hr.mono (by decide)) (by rfl) T.f59.g T.f59.F.kp T.f59.b .nil pass0 (pa_cons (pv 0) (pa_cons pe_int pa_nil)))) pa_nil))) (pe_call (ok59 T) (hr.mono (by decide)) (by rfl) T.f59.g T.f59.F.kp T.f59.b .nil pass0 (pa_cons (pv 0) (pa_cons pe_int pa_nil))) (fun _ _ => rfl)) pa_nil))))
      (pss_cons (ps_set (i := 2) sc65.nd rfl (.inl rfl) (pe_call (ok61 T) (hr.mono (by decide)) (by rfl) T.f61.g T.f61.F.kp T.f61.b .nil pass0 (pa_cons (pv 0) (pa_cons (pv 1) (pa_cons (pe_ix (r := rIx K) ix_seq (pe_lst (pa_cons pe_int (pa_cons pe_int (pa_cons pe_int pa_nil)))) (pe_call (ok59 T) (hr.mono (by decide)) (by rfl) T.f59.g T.f59.F.kp T.f59.b .nil pass0 (pa_cons (pv 0) (pa_cons pe_int pa_nil))) (fun _ _ => rfl)) pa_nil)))))
      (pss_cons (ps_set (i := 3) sc65.nd rfl (.inl rfl) (pe_ix (r := rIx K) ix_seq (pe_lst (pa_cons pe_int (pa_cons pe_int (pa_cons pe_int (pa_cons pe_int (pa_cons (pe_op op_add pe_int (pe_call (ok59 T) (hr.mono (by decide)) (by rfl) T.f59.g T.f59.F.kp T.f59.b .nil pass0 (pa_cons (pv 0) (pa_cons pe_int pa_nil)))) pa_nil)))))) (pe_call (ok59 T) (hr.mono (by decide)) (by rfl) T.f59.g T.f59.F.kp T.f59.b .nil pass0 (pa_cons (pv 0) (pa_cons pe_int pa_nil))) (fun _ _ => rfl)))
      (pss_one (ps_ret (pe_lst (pa_cons (pv 1) (pa_cons (pv 2) (pa_cons (pv 3) (pa_cons (pe_call (ok64 T) (hr.mono (by decide)) (by rfl) T.f64.g T.f64.F.kp T.f64.b .nil pass0 (pa_cons (pv 0) (pa_cons (pv 1) (pa_cons (pv 2) (pa_cons (pv 3) pa_nil))))) pa_nil)))))))))), fun g ws μ k eg h => ?_⟩)
  refine pn_go eg h fun a m b args Po hR hp hb eg => ?_
  obtain ⟨rfl, hk⟩ := hR
  walk_at "cx"
  refine Go.slots (δ' := [.va (.ref a), .no, .no, .no]) rfl ?_
  refine go_mid (fun δ' μ' => ∃ (m' : Mu) (ss : List Str), δ' = [.va (.ref a), .da (lS ss), .no, .no] ∧ μ' = [(a, m')] ∧ Pw m' (b + 113) ∧ 0 < ss.length ∧ ss.length ≤ 12 ∧ ∀ s, s ∈ ss → okS s = true) ?_ ?_
  · refine go_set (ev_pn ?_)
    walk_at "go"
    refine ev_lst' ?_
    walk_at "go"
    refine ⟨a, m, _, 3, _, rfl, rfl, hp, by omega, by decide, by decide, fun v1 m1 hv1 hp1 => ?_⟩
    walk_at "go"
    refine ⟨a, m1, _, 11, _, rfl, rfl, hp1, by omega, by decide, by decide, fun v2 m2 hv2 hp2 => ?_⟩
    walk_at "go"
    refine ⟨a, m2, _, 2, _, rfl, rfl, hp2, by omega, by decide, by decide, fun v m3 hv hp3 => ?_⟩
    refine o_pick (ns := [1 + v1, 2 + v2]) rfl hv fun n hn => ?_
    have hn : 1 ≤ n ∧ n ≤ 12 := by
      simp at hn
      omega
    walk_at "go"
    refine ⟨a, m3, _, _, _, rfl, rfl, hp3, by omega, fun w => ∃ ss : List Str, w = .da (lS ss) ∧ ss.length = n ∧ ∀ s, s ∈ ss → okS s = true, ⟨n, rfl, hn.2, fun ss h1 h2 => ⟨ss, rfl, h1, h2⟩⟩, ?_⟩
    rintro _ m4 ⟨ss, rfl, e1, e2⟩ hp4
    exact ⟨m4, ss, rfl, rfl, hp4, by omega, by omega, e2⟩
  rintro _ _ ⟨m1, ss, rfl, rfl, hp1, h0, h1, hok⟩
  refine go_mid (fun δ' μ' => ∃ (m' : Mu) (xs : List Str), δ' = [.va (.ref a), .da (lS ss), .da (tS xs), .no] ∧ μ' = [(a, m')] ∧ Pw m' (b + 141) ∧ xs.length ≤ 26 ∧ ∀ x, x ∈ xs → x ∈ ss) ?_ ?_
  · refine go_set (ev_pn ?_)
    walk_at "go"
    refine ev_lst' ?_
    walk_at "go"
    refine ⟨a, m1, _, 3, _, rfl, rfl, hp1, by omega, by decide, by decide, fun v m2 hv hp2 => ?_⟩
    refine o_pick (ns := [5, 12, 26]) rfl hv fun n hn => ?_
    have hn : n ≤ 26 := by
      simp at hn
      omega
    walk_at "go"
    refine ⟨a, m2, _, _, _, rfl, rfl, hp2, by omega, fun w => ∃ xs : List Str, w = .da (tS xs) ∧ xs.length ≤ n ∧ ∀ x, x ∈ xs → x ∈ ss, ⟨ss, n, rfl, h0, by omega, hn, fun xs h1 h2 => ⟨xs, rfl, h1, h2⟩⟩, ?_⟩
    rintro _ m3 ⟨xs, rfl, e1, e2⟩ hp3
    exact ⟨m3, xs, rfl, rfl, hp3.mono (by omega), by omega, e2⟩
  rintro _ _ ⟨m2, xs, rfl, rfl, hp2, hxl, hxm⟩
  refine go_mid (fun δ' μ' => ∃ (m' : Mu) (bd : Nat), δ' = [.va (.ref a), .da (lS ss), .da (tS xs), dI (bd : Nat)] ∧ μ' = [(a, m')] ∧ Pw m' (b + 143) ∧ 2 ≤ bd ∧ bd ≤ 40) ?_ ?_
  · walk_at "go"
    refine ev_lst' ?_
    walk_at "go"
    refine ⟨a, m2, _, 39, _, rfl, rfl, hp2, by omega, by decide, by decide, fun v1 m3 hv1 hp3 => ?_⟩
    walk_at "go"
    refine ⟨a, m3, _, 5, _, rfl, rfl, hp3, by omega, by decide, by decide, fun v m4 hv hp4 => ?_⟩
    refine o_pick (ns := [2, 2, 3, 4, 2 + v1]) rfl hv fun n hn => ?_
    have hn : 2 ≤ n ∧ n ≤ 40 := by
      simp at hn
      omega
    exact ⟨m4, n, rfl, rfl, hp4, hn⟩
  rintro _ _ ⟨m3, bd, rfl, rfl, hp3, hb0, hb1⟩
  refine go_ret (ev_lst' ?_)
  walk_at "go"
  refine .pn ?_
  refine ⟨a, m3, _, _, _, rfl, rfl, hp3, by omega, fun w => ∃ ys : List Str, w = .da (tS ys) ∧ ys.length ≤ 40 ∧ ∀ y, y ∈ ys → y ∈ ss ∨ y ∈ xs, ⟨ss, xs, bd, rfl, h0, by omega, by omega, by omega, by omega, fun ys e1 e2 => ⟨ys, rfl, e1, e2⟩⟩, ?_⟩
  rintro _ m4 ⟨ys, rfl, e1, e2⟩ hp4
  walk_at "go"
  exact ⟨m4, [], rfl, hp4.mono (by omega), hk ss xs ys bd ⟨h0, h1, hok, hxl, hxm, e1, fun y hy => (e2 y hy).elim id (hxm y), hb0, hb1⟩⟩
end
end De
end
section
set_option Elab.async false
set_option linter.all false
set_option maxRecDepth 100000
set_option maxHeartbeats 4000000
/-! an exception that is kept beyond its suite; a call by keywords in a try -/
namespace De
open PySem L2 PySem.Spec PyProof.Rows
section
variable {X : Cx} {pins : List (Addr × Obj)} {σ : L2.St} {H : Hp} {s : Shared}
/-- an object that was pinned is tracked from here on -/
theorem inv_keepX {a : Addr} {oe : Obj} (I : Inv X ((a, oe) :: pins) σ H s) (fresh : ∀ o, X.s_0.heap.get? a = some o → X.H_0 a = none → a ∉ X.ex → False) (hp : ∀ p, p ∈ X.pn ++ pins → p.1 ≠ a) :
    Inv X pins σ (upd H a (.ext fun h => h.get? a = some oe)) s := by
  obtain ⟨p1, p2, p3, p4, p5⟩ := I.pin (a, oe) (List.mem_append_right _ List.mem_cons_self)
  have p1 : s.heap.get? a = some oe := p1
  have p2 : H a = none := p2
  have old : ∀ {b : Addr} {o : HO}, H b = some o → upd H a (.ext fun h => h.get? a = some oe) b = some o := fun {b o} e => by
    rw [upd_ne (fun z => by subst z; rw [p2] at e; cases e)]; exact e
  refine ⟨I.ok, I.os, I.bare, ⟨I.base.keep, I.base.slot, fun b o e n hx => ?_, I.base.there, fun b xs e => old (I.base.tups b xs e), fun b o u e => old (I.base.frzs b o u e), fun b ps e => ?_⟩, I.loc, I.cell, ?_, fun x c e => ?_, fun p hq => ?_, fun b o e => ?_, I.len⟩
  · by_cases z : b = a
    · subst z; exact (fresh o e n hx).elim
    · rw [upd_ne z]; exact I.base.free b o e n hx
  · obtain ⟨more, q⟩ := I.base.tbls b ps e
    exact ⟨more, old q⟩
  · rw [upd_ne (Ne.symm p3)]; exact I.free
  · have z : c ≠ a := fun z => by
      subst z
      obtain ⟨v, hv⟩ := I.cell x c e
      obtain ⟨o, h1, h2⟩ := hv
      rw [p1] at h1
      cases h1
      exact p5 _ h2
    rw [upd_ne z]; exact I.freeC x c e
  · have hq' : p ∈ X.pn ++ ((a, oe) :: pins) := by
      rcases List.mem_append.mp hq with h | h
      · exact List.mem_append_left _ h
      · exact List.mem_append_right _ (List.mem_cons_of_mem _ h)
    obtain ⟨q1, q2, q3, q4, q5⟩ := I.pin p hq'
    exact ⟨q1, by rw [upd_ne (hp p hq)]; exact q2, q3, q4, q5⟩
  · by_cases z : b = a
    · subst z
      rw [upd_same] at e
      cases e
      exact ⟨p1, ⟨oe, p1⟩, fun h1 h2 e1 k => k _ e1⟩
    · rw [upd_ne z] at e
      exact (I.hok b o e).stay (fun _ _ _ h => h) (fun c q => old q) (fun c xs q => old q)
end

/-- what is known of the object of a kept exception -/
def Kept (a : Addr) (cls : Value) (d : Option Addr) (φ : Heap → Prop) : Prop := ∀ h, φ h → ∃ oe vs, h.get? a = some oe ∧ Zc cls d oe ∧ oe.data = .fields vs
/-- what 'except c as n: suite' wishes (slot i is n's): the suite ends, the exception's object stays tracked -/
def wKeep (K : PySem.W.Frag) (c : Value) (i : Nat) (ts : Addr → TS) (D : Ends) : WX := fun cls d σ H =>
  PySem.W.exmOne K cls c = some true ∧ ∀ a, H a = none → ts a { nx := fun σ' H' => H' a = none → ∀ φ, Kept a cls d φ → D.nx (σ'.set i none) (upd H' a (.ext φ)), rt := fun _ _ => False, bk := fun _ _ => False, ct := fun _ _ => False } (σ.set i (some (.ref a))) H
section
variable {X : Cx} {x n : Str} {c : Value} {i : Nat} {body suite : List Stmt} {b₀ : Stmt} {np pos pos' : Pos} {tb : WX → TS} {ts : Addr → TS}
theorem ps_try_keep (hs : X.stack = X.env :: X.outer) (hf : X.env.frame = some X.env.locals) (hN : X.N.Nodup) (hi : X.N[i]? = some n) (hln : X.env.kindOf n = some .local) (hc : Names X x c)
    (hb : ∀ (W : WX) (pn : List (Addr × Obj)) (xe : Value → Shared → Prop), Takes (X.tr pn xe) W → PassesOwn (model X.prog X.w) X.A X.env xe → PSs (X.tr pn xe) body (tb W))
    (hsu : ∀ (a : Addr) (oe : Obj) (pn : List (Addr × Obj)), PSs (X.suite a ((a, oe) :: pn)) (b₀ :: suite) (ts a)) :
    PS X (.Try body [.ExceptHandler (some (.Name x np)) (some n) (b₀ :: suite) pos'] [] [] pos) (fun D σ H => tb (wKeep X.K c i ts D) D σ H) := by
  refine ⟨fun pins s σ H D I h => wpAny_Try_except ?_⟩
  have ok := I.ok
  have frs_ok : X.A.frames = some (X.env :: X.outer) := ok.frames.trans (congrArg some hs)
  let Ecatch : Value → Shared → Prop := fun e s₁ => wpAny (model X.prog X.w) X.A (noteFrame e X.env) (fun _ s₂ => wpAny (model X.prog X.w) X.A (setFlight e none) (fun _ s₃ =>
    wpAny (model X.prog X.w) X.A (handleBy e X.env [.ExceptHandler (some (.Name x np)) (some n) (b₀ :: suite) pos']) (SP X pins D) X.xe s₃) X.xe s₂) X.xe s₁
  have caught : Takes (X.tr (X.pn ++ pins) Ecatch) (wKeep X.K c i ts D) := fun u s' ⟨a, B, sI, pinsI, σI, HI, cls, d, eu, JI, nb, up, sky, na, os, ag, hmatch, hsuite⟩ => by
    subst eu
    have J : Inv X pins σI HI sI := JI.ofTry ok
    have nb' : ∀ b o, sI.heap.get? b = some o → b ∉ frs (X.env :: X.outer) → B.get? b = some o := fun b o q1 q2 => nb b o q1 (fun z => q2 (hs ▸ z))
    refine Sky.land Zc.steady frs_ok hf (show Sky B (X.env :: X.outer) a (Zc cls d) X.env.locals s'.heap from hs ▸ sky) fun h3 fl3 up3 => ?_
    have J3 : Inv X pins σI HI { s' with heap := h3 } := J.landed nb fl3.1 (up.trans up3) os ag
    obtain ⟨oe3, vs3, he3, hz3, hd3⟩ := fl3.there
    have outside : a ∉ frs (X.env :: X.outer) := fun hm => by
      obtain ⟨_, o', e', hnf⟩ := fl3.2.2.1.mem hm
      rw [he3] at e'
      cases e'
      exact hnf _ hd3
    have nL : a ≠ X.env.locals := fun z => outside (List.mem_filterMap.mpr ⟨X.env, List.mem_cons_self, hf.trans (congrArg some z.symm)⟩)
    have nF : a ∉ X.fs := fun hm => by
      obtain ⟨e, q1, q2⟩ := List.mem_filterMap.mp hm
      exact outside (List.mem_filterMap.mpr ⟨e, List.mem_cons_of_mem _ q1, q2⟩)
    have offB : ∀ o, sI.heap.get? a = some o → False := fun o q => by
      have := nb' a o q outside
      rw [fl3.2.1] at this
      cases this
    have fresh : ∀ o, X.s_0.heap.get? a = some o → X.H_0 a = none → a ∉ X.ex → False := fun o q1 q2 q3 => offB o (J.base.keep a o q1 q2 nF q3)
    have apart : ∀ p, p ∈ X.pn ++ pins → p.1 ≠ a := fun p hp z => offB p.2 (z ▸ (J.pin p hp).1)
    have S3 := J3.suite he3 hd3 na nL nF
    refine wpAny_handleBy_cons (codeAny_handlers_test ?_) (by intro q; cases q)
    have LT : PySem.W.Looks (model X.prog X.w) h3 (typeOf (.ref a)) cls := fun A Q E s k q => wpAny_typeOf_ref (k _ _ he3) (by rw [hz3.1]; exact q)
    have LM := PySem.W.exm_one (M := model X.prog X.w) (J3.kIn) LT hmatch
    have named : ∀ {Q : Value → Shared → Prop} {E : Value → Shared → Prop}, Q c { s' with heap := h3 } → wpAny (model X.prog X.w) (X.A.mark (some (.ref a))) (eval (.Name x np) X.env) Q E { s' with heap := h3 } := fun {Q E} q => by
      obtain ⟨hg, hdbg, hm | ⟨hm, hv, hnn⟩⟩ := hc
      · exact ld_glob (X := X.suite a ((a, oe3) :: (X.pn ++ pins))) S3 hg hm q hdbg
      · exact ld_blt (X := X.suite a ((a, oe3) :: (X.pn ++ pins))) S3 hg hm hv q hnn hdbg
    refine named (LM.here (codeAny_handlers_suite_as ?_))
    refine HandSPX.lands_againZ fl3 fun h4 fl4 up4 => ?_
    have J4 : Inv X pins σI HI { s' with heap := h4 } := J.landed nb fl4.1 ((up.trans up3).trans up4) os ag
    obtain ⟨oe4, vs4, he4, hz4, hd4⟩ := fl4.there
    refine store_ok (X := X.suite a ((a, oe4) :: (X.pn ++ pins))) (v := .ref a) (J4.suite he4 hd4 na nL nF) hN hi (show Loc X.env.scope n from .inl hln) rfl (fun s5 S5 => ?_) (.inr hln)
    refine wpAny_mono ((hsu a oe4 (X.pn ++ pins)).run [] s5 _ HI _ S5 (hsuite a na)) (fun f s6 hsp => ?_) (fun _ _ z => False.elim z)
    cases f with
    | next =>
      obtain ⟨σ6, H6, S6, q6⟩ := hsp
      have J6 : Inv X ((a, oe4) :: pins) σ6 H6 s6 := ⟨ok, S6.os, S6.bare, S6.base, S6.loc, S6.cell, S6.free, S6.freeC, fun p hp => S6.pin p (List.mem_append_left _ (by
        rcases List.mem_append.mp hp with z | z
        · exact List.mem_cons_of_mem _ (List.mem_append_left _ z)
        · rcases List.mem_cons.mp z with z | z
          · rw [z]; exact List.mem_cons_self
          · exact List.mem_cons_of_mem _ (List.mem_append_right _ z))), S6.hok, S6.len⟩
      refine gone_ok J6 hN hi hln fun s7 J7 => ⟨_, _, inv_keepX J7 fresh apart, q6 (J7.pin (a, oe4) (List.mem_append_right _ List.mem_cons_self)).2.1 _ fun h e => ⟨oe4, vs4, e, hz4, hd4⟩⟩
    | brk => obtain ⟨_, _, _, q⟩ := hsp; exact q.elim
    | cont => obtain ⟨_, _, _, q⟩ := hsp; exact q.elim
    | ret u => obtain ⟨_, _, _, _, _, q⟩ := hsp; exact q.elim
  refine wpAny_mono ((hb (wKeep X.K c i ts D) (X.pn ++ pins) Ecatch caught PassesOwn.looking).run [] s σ H D (I.toTry _) h) (fun f s1 hsp => ?_) (fun e s1 he => he)
  cases f with
  | next =>
    obtain ⟨σ', H', J', q⟩ := hsp
    exact wpAny_execs_nil ⟨σ', H', J'.ofTry ok, q⟩
  | brk =>
    obtain ⟨σ', H', J', q⟩ := hsp
    exact ⟨σ', H', J'.ofTry ok, q⟩
  | cont =>
    obtain ⟨σ', H', J', q⟩ := hsp
    exact ⟨σ', H', J'.ofTry ok, q⟩
  | ret u =>
    obtain ⟨v, σ', H', J', r, q⟩ := hsp
    exact ⟨v, σ', H', J'.ofTry ok, r, q⟩
end

/-- e.f, e a kept exception of the class at C -/
def tXk (C : Addr) (f : Str) (te : TE) : TE := fun σ H Q => te σ H fun x H1 => ∃ (a dd : Addr) (φ : Heap → Prop) (fs : List (Str × V)) (v : V), x = .ref a ∧ H1 a = some (.ext φ) ∧ Kept a (.ref C) (some dd) φ ∧ H1 dd = some (.xd fs) ∧ fs.lookup f = some v ∧ Q v H1
theorem pe_xk {X : Cx} {C : Addr} {e : Expr} {te : TE} {pos : Pos} {n : Str} (T : XfC X.K C) (hno : PySem.W.findIn X.K (.ref C) n = some none) (he : PE X e te) (hb : attributeBase e n X.env (eval e X.env) = eval e X.env := by rfl) :
    PE X (.Attribute e n pos) (tXk C n te) := by
  refine ⟨fun pins s σ H Q I h => attr_of hb (thn (he.run pins s σ H _ I h) fun u s1 hh => ?_)⟩
  obtain ⟨x, H1, I1, rx, a, dd, φ, fs, v, ex, ea, kept, ed, l, q⟩ := hh
  subst ex
  obtain rfl : u = Value.ref a := rx
  obtain ⟨hφ, _, _⟩ := (show ObjOk X.prog X.w H1 s1.heap a (.ext φ) from I1.hok a _ ea)
  obtain ⟨oe, vs, ha, hz, hd⟩ := kept _ hφ
  obtain ⟨mA, hns, hr⟩ := (show ObjOk X.prog X.w H1 s1.heap dd (.xd fs) from I1.hok dd _ ed)
  obtain ⟨od, ho, hl⟩ := lookIn_ns hns
  obtain ⟨u, hu, ru⟩ := RelO.some_of (v := v) (o := mA n) (by rw [← l]; exact hr n)
  have J : PySem.W.InstAt s1.heap a oe C (some od) := ⟨ha, hz.1, by unfold PySem.W.notCls; rw [hd] <;> rfl, by rw [hz.2]; exact ho⟩
  exact HandSPX.exc_get I1.kIn J T.ga T.gg T.exC (PySem.W.findObj_own T.hdC hno rfl (by rw [hl, hu])) (handed_of ru) ⟨v, H1, I1.tok _, ru, q⟩
/-! ### a call by keywords whose exception depends on the slots -/
theorem fnk_of {P : Program} {w : World} {K : PySem.W.Frag} {mg : Str → Option Value} {base : Heap} {CX : CXT} {k n : Nat} {f : Addr} {fd : FuncData} {ps ks : List Str} {sp : Sp} {g : List Value → List Value → List Value} {gV : List V → List V → List V}
    (F : FnOk P w K mg base CX k f fd ps sp) (hb : KBn K fd ps n ks g gV) (hg : ∀ vs zs, vs.length = n → gV vs zs = gV [] (vs ++ zs)) : FnK P w K mg base CX k f n ks (fun l H Q E => sp (gV [] l) H Q E) := by
  intro A outer s H us ws vs zs Q E hr e0 rv rz l1 l2 hsp
  rw [← hg vs zs l1] at hsp
  have kin : K.In s.heap := e0.mod.kin.keeps fun b o q => (e0.bs b o q).1
  exact F.run A outer s H ⟨us, ks.zip ws⟩ (g us ws) (gV vs zs) Q E hr e0 (hb.to s us ws kin (rv.length.symm.trans l1) (rz.length.symm.trans l2)) (hb.rel rv rz) hsp
def tCallVS (n m : Nat) (sp : Sp) (E : L2.St → XK) (t tk : TA) : TE := fun σ H Q => t σ H fun vs H1 => tk σ H1 fun zs H2 => vs.length = n ∧ zs.length = m ∧ sp (vs ++ zs) H2 Q (E σ)
section
variable {X : Cx} {CX : CXT} {k n : Nat} {f : Addr} {ks : List Str} {sp : Sp} {E : L2.St → XK} {x : Str} {p pos : Pos} {e : Expr} {es : List Expr} {kws : List Keyword} {t tk : TA}
theorem pe_callVS (F : FnK X.prog X.w X.K X.mg X.base CX k f n ks sp) (hr : Room k X.A) (hg : Gl X x) (hm : X.mg x = some (.ref f)) (hk : PySem.W.keepIn X.K (.ref f) = true) (hx : ∀ σ, PassesAt CX X σ (E σ))
    (ha : PA X (e :: es) t) (hkw : PK X kws tk) (hall : (backToKw pos (keywordEach kws X.env)).all (·.1.isSome) = true := by rfl) (hks : (backToKw pos (keywordEach kws X.env)).filterMap (·.1) = ks := by rfl)
    (hdb : (x == ("__debug__" : Str)) = false := by decide) (he : starEach (e :: es) X.env = (false, eval e X.env) :: starEach es X.env := by rfl)
    (hpl : ((backTo pos (starEach (e :: es) X.env)).any (·.1) || (backToKw pos (keywordEach kws X.env)).any (·.1.isNone)) = false := by rfl) :
    PE X (.Call (.Name x p) (e :: es) kws pos) (tCallVS n ks.length sp E t tk) := by
  refine ⟨fun pins s σ H Q I h => wpAny_Call_Name_kw (ld_glob I hg hm ?_ hdb)⟩
  refine PySem.W.callWith_KW (h₀ := X.base) I.ok.mod.kin hk hall (thn (ha.run pos pins s σ H _ I h) fun us s1 ⟨vs, H1, I1, r, q⟩ => ?_) hpl he
  refine thn (hkw.run pos pins s1 σ H1 _ I1 q) fun ws s2 ⟨zs, H2, I2, rz, l1, l2, q2⟩ => ⟨I2.kIn, ?_⟩
  rw [hks]
  refine wpAny_call (codeAny_mono (F X.A X.stack s2 H2 us ws vs zs Q (E σ) hr I2.env0 r rz l1 l2 q2) fun r s' hq => ?_)
  match r, hq with
  | .error e, hq => exact hx σ pins H2 s2 e s' I2 hq
  | .ok (.ret u), hq => exact I2.after hq
end
/-! ### the try statements, told of data -/
section
variable {K : PySem.W.Frag} {g : Gr} {δ : List Sl} {μ : Mus} {F : AE} {tas tk : TA} {C : Addr} {f : Str} {n m i : Nat} {ts : TS}
/-- try: x = f(..) / except C: suite -/
theorem go_tryX {D : List Sl → Out → Prop} (hx : PySem.W.exmOne K (.ref C) (.ref C) = some true)
    (h : EvA K g δ μ tas fun ws μ1 => EvA K g δ μ1 tk fun us μ2 => ws.length = n ∧ us.length = m ∧ ∃ o, D (ws ++ us) o ∧ (∀ r, o = .inl r → F.nx (δ.set i r) μ2) ∧ (∀ r, o = .inr r → Go K g δ μ2 ts F)) :
    Go K g δ μ (fun Dd σ H => tAsg (tCallVS n m (spX K C f D) (WE (wOnly K (.ref C) (fun _ _ _ => ts) (fun _ _ _ _ => False) Dd)) tas tk) (gName i) Dd σ H) F := fun σ H B c Dd fi =>
  h σ H B c _ fun ws μ1 vs H1 B1 h1 c1 s1 r1 => h1 σ H1 B1 c1 _ fun us μ2 zs H2 B2 ⟨l1, l2, o, hD, hk, hr⟩ c2 s2 r2 => by
    have app : ∀ {vs ws zs us}, RlAll K B2 vs ws → RlAll K B2 zs us → RlAll K B2 (vs ++ zs) (ws ++ us) := fun {vs ws zs us} a b => by
      induction a with
      | nil => exact b
      | cons h _ ih => exact .cons h ih
    have e : put μ2 [] [] = μ2 := List.append_nil μ2
    refine ⟨r1.len.trans l1, r2.len.trans l2, B2, ws ++ us, c2.bh, app (rlAll_same s2 r1) r2, o, hD, fun r' eo v B' H' fr rv => ?_, fun r' eo d v B' H' fr rv hd => ?_⟩
    · obtain ⟨c3, _⟩ := c2.called (js := []) (μf := []) (μf' := []) rfl List.nodup_nil fr (fun _ z => nomatch z) List.nodup_nil
      rw [e] at c3
      exact fi.nx _ _ _ _ _ (hk r' eo) (c3.store rv) ((s1.trans s2).trans fr.bb)
    · obtain ⟨c3, _⟩ := c2.called (js := []) (μf := []) (μf' := []) rfl List.nodup_nil fr (fun _ z => nomatch z) List.nodup_nil
      rw [e] at c3
      exact ⟨true, hx, fun _ a _ => hr r' eo σ H' B' c3 Dd (fi.mono ((s1.trans s2).trans fr.bb)), fun z => nomatch z⟩
abbrev rNotN : R2 := fun x y H Q => y = .non ∧ Q (.bl (!decide (x = .non))) H
/-- try: x = f(..) / except C as e: y = e; if y is not None: return (w0, y.f) -/
theorem go_tryY {j l : Nat} {R : List Sl → (Out → Prop) → Prop} {sp : Sp} {rest : TS} {w0 : Str} (hx : PySem.W.exmOne K (.ref C) (.ref C) = some true) (hsp : ∀ l H Q E, spY K C f R (l ++ [.non]) H Q E → sp l H Q E) (hl : l < δ.length) (hj : j < δ.length) (hlj : l ≠ j)
    (h : EvA K g δ μ tas fun ws μ1 => EvA K g δ μ1 tk fun us μ2 => ws.length = n ∧ us.length = m ∧ ∃ Po, R (ws ++ us ++ [dN]) Po ∧
      (∀ r, Po (.inl r) → Go K g (δ.set i r) μ2 (tSeq (tIfS (tTest (tOp rNotN (tVar j) (tC .non))) (tRet (tTupF (tCons (tC (.str w0)) (tCons (tXk C f (tVar j)) tNil)))) tNext) rest) F) ∧
      (∀ r, Po (.inr r) → ∃ cd, r = .da cd ∧ F.rt (dT [.str w0, cd]) μ2)) :
    Go K g δ μ (tSeq (fun Dd σ H => tAsg (tCallVS n m sp (WE (wKeep K (.ref C) l (fun _ => tAsg (tVar l) (gName j)) Dd)) tas tk) (gName i) Dd σ H)
      (tSeq (tIfS (tTest (tOp rNotN (tVar j) (tC .non))) (tRet (tTupF (tCons (tC (.str w0)) (tCons (tXk C f (tVar j)) tNil)))) tNext) rest)) F := fun σ H B c Dd fi =>
  h σ H B c _ fun ws μ1 vs H1 B1 h1 c1 s1 r1 => h1 σ H1 B1 c1 _ fun us μ2 zs H2 B2 ⟨l1, l2, Po, hR, hk, hr⟩ c2 s2 r2 => by
    have app : ∀ {vs ws zs us}, RlAll K B2 vs ws → RlAll K B2 zs us → RlAll K B2 (vs ++ zs) (ws ++ us) := fun {vs ws zs us} a b => by
      induction a with
      | nil => exact b
      | cons h _ ih => exact .cons h ih
    have e : put μ2 [] [] = μ2 := List.append_nil μ2
    refine ⟨r1.len.trans l1, r2.len.trans l2, hsp _ _ _ _ ⟨B2, ws ++ us ++ [dN], c2.bh, app (app (rlAll_same s2 r1) r2) (.cons (w := dN) Dp.non .nil), Po, hR, fun r' eo v B' H' fr rv => ?_, fun r' eo d v B' H' fr rv hd => ?_⟩⟩
    · obtain ⟨c3, _⟩ := c2.called (js := []) (μf := []) (μf' := []) rfl List.nodup_nil fr (fun _ z => nomatch z) List.nodup_nil
      rw [e] at c3
      exact hk r' eo _ H' B' (c3.store rv) Dd (fi.mono ((s1.trans s2).trans fr.bb))
    · obtain ⟨c3, _⟩ := c2.called (js := []) (μf := []) (μf' := []) rfl List.nodup_nil fr (fun _ z => nomatch z) List.nodup_nil
      rw [e] at c3
      obtain ⟨cd, ecd, hrt⟩ := hr r' eo
      subst ecd
      have hlen := c3.ln
      refine ⟨hx, fun a ha => ⟨.ref a, by rw [List.getElem?_set_self (by rw [hlen]; exact hl)], fun _ φ kept => ?_⟩⟩
      obtain ⟨c4, s4⟩ := c3.new (o := .ext φ) ha
      have hda : d ≠ a := fun z => by
        subst z
        have := c3.bh _ _ hd
        rw [ha] at this
        cases this
      have gj : (((σ.set l (some (V.ref a))).set j (some (V.ref a))).set l none)[j]? = some (some (.ref a)) := by
        rw [List.getElem?_set_ne hlj, List.getElem?_set_self (by rw [List.length_set, hlen]; exact hj)]
      have hH : (upd H' a (.ext φ)) d = some (.xd [(f, v)]) := by rw [upd_ne hda]; exact c3.bh _ _ hd
      refine ⟨.ref a, gj, rfl, true, rfl, ?_⟩
      refine iteT ?_
      refine ⟨.ref a, gj, a, d, φ, [(f, v)], v, rfl, upd_same, kept, hH, by simp [List.lookup], ?_⟩
      refine ⟨by show 2 ≤ sizeLine; decide, fun p ob hob hp => ?_⟩
      obtain ⟨c5, s5⟩ := c4.new (o := .frz ob (.tup [.str w0, v])) hp
      exact fi.rt _ _ _ _ _ _ _ hrt c5 ((((s1.trans s2).trans fr.bb).trans s4).trans s5)
        (.tup ⟨ob, upd_same, hob⟩ (.cons (.str w0) (.cons (dp_same (s4.trans s5) rv) .nil)))
end
end De
end
section
set_option Elab.async false
set_option linter.all false
set_option maxRecDepth 100000
set_option maxHeartbeats 4000000
/-! the law: accepts, built -/
namespace De
open PySem L2 PySem.Spec PyProof.Rows RZ
local macro_rules | `(tactic| walk_at "de") => `(tactic| first
  | with_reducible refine go_seq ?_
  | with_reducible refine go_set ?_
  | with_reducible refine go_asg ?_
  | with_reducible refine go_ret ?_
  | with_reducible refine go_if ?_
  | with_reducible refine go_next ?_
  | with_reducible refine go_drop ?_
  | ((with_reducible apply ev_da); exact rfl)
  | ((with_reducible apply ev_va); exact rfl)
  | with_reducible refine ev_c ?_
  | with_reducible refine ev_op ?_
  | with_reducible refine ev_un ?_
  | with_reducible refine ea_nil ?_
  | with_reducible refine ea_cons ?_
  | with_reducible refine ev_sortset ?_
  | ((with_reducible apply ev_cells); (focus assumption); (focus assumption))
  | ((with_reducible apply ev_reach); (focus assumption); (focus assumption))
  | ((with_reducible apply ev_made); (focus assumption); (focus assumption))
  | with_reducible refine ev_height ?_
  | ((with_reducible apply ev_methS); (focus (decide +kernel)); (focus (decide +kernel)); (focus (decide +kernel)))
  | with_reducible refine ev_callS ?_
  | with_reducible refine ev_count ?_
  | with_reducible refine ev_tcount ?_
  | with_reducible refine oc_len_c ?_
  | with_reducible refine ev_cb ?_
  | with_reducible refine eb_test ?_
  | with_reducible refine eb_B ?_
  | with_reducible refine eb_and ?_
  | with_reducible refine eb_or ?_
  | with_reducible refine eb_not ?_
  | with_reducible refine ev_andV ?_
  | with_reducible refine ev_orV ?_
  | with_reducible refine ev_notV ?_
  | with_reducible refine ev_if ?_
  | with_reducible refine ev_sl ?_
  | with_reducible refine eo_no ?_
  | with_reducible refine eo_some ?_
  | with_reducible refine ev_tup' ?_
  | with_reducible refine o_pen0 ?_
  | with_reducible refine o_pen1 ?_
  | with_reducible refine o_pen2 ?_
  | with_reducible refine ev_draw ?_
  | with_reducible refine ev_callX ?_
  | with_reducible refine ev_callP ?_
  | with_reducible refine ev_callNP ?_
  | with_reducible refine ev_call ?_
  | with_reducible refine ev_callN ?_
  | with_reducible refine ev_chain ?_
  | with_reducible refine o_I0 ?_
  | with_reducible refine o_eqI ?_
  | with_reducible refine o_neI ?_
  | with_reducible refine o_eqS ?_
  | with_reducible refine o_neS ?_
  | with_reducible refine o_isN ?_
  | with_reducible refine o_notN ?_
  | with_reducible refine o_ltS ?_
  | with_reducible refine o_U ?_
  | with_reducible refine oc_len_tS ?_
  | with_reducible refine oc_len_lS ?_
  | with_reducible refine oc_len_t ?_
  | with_reducible refine oc_len_l ?_
  | with_reducible refine o_ix0 ?_
  | with_reducible refine o_ix1 ?_
  | with_reducible refine ev_dnew ?_
  | with_reducible refine oc_isiT ?_
  | with_reducible refine oc_isiTL ?_
  | with_reducible refine oc_isiI ?_
  | with_reducible refine oc_isiIB ?_
  | with_reducible refine oc_isiS ?_
  | with_reducible refine oc_min2 ?_
  | with_reducible refine oc_max2 ?_
  | with_reducible refine oc_abs ?_
  | with_reducible refine oc_intB ?_
  | with_reducible refine oc_tup_lS ?_
  | with_reducible refine oc_tup_l ?_
  | with_reducible refine o_inF ?_
  | with_reducible refine o_inT ?_
  | with_reducible refine o_inLF ?_
  | with_reducible refine o_inLT ?_
  | with_reducible refine eb_yes ?_
  | (refine Exists.intro _ (Exists.intro _ (Exists.intro _ (Exists.intro _ (Exists.intro _ (Exists.intro _ (Exists.intro _ (Exists.intro _ (And.intro rfl (And.intro rfl ?_))))))))))
  | (refine Exists.intro _ (And.intro (show dats _ = some _ from rfl) (And.intro (show Nat.ble _ 60 = true from rfl) ?_)))
  | with_reducible refine Exists.intro _ (And.intro rfl ?_))
local macro_rules | `(tactic| walk_at "cx") => `(tactic| try simp only [cx_K, cx_K'])
local macro_rules | `(tactic| walk_at "go") => `(tactic| repeat walk_at "de")

section
variable {P : Program} {w : World} {K : PySem.W.Frag} {mg : Str → Option Value} {base : Heap}
theorem sc66 : FnScope ["_law_pile_here", "_law_goal_here", "_law_given", "_law_bound", "_law_told"] ["_law_pile_here", "_law_goal_here", "_law_given", "_law_bound"] (defScope (topS 66)) := ⟨rfl, rfl, rfl, by decide +kernel, rfl, by decide +kernel, by decide +kernel⟩
def D66 (ws : List Sl) (r : Sl) : Prop := ∃ S T c k, ws = [.da (tS S), .da (tS T), .da (certD c), dI (k : Nat)] ∧ Pil S ∧ Pil T ∧ Cok c ∧ r = dB (checkL ltS S T k c)
theorem ok66 (T : Ty K mg) : FnOk P w K mg base CX0 5 T.f66.a T.f66.d ["_law_pile_here", "_law_goal_here", "_law_given", "_law_bound"] (spG K (pu D66)) := by
  refine fn_go T.f66.F sc66 (fun ws μ k h => by obtain ⟨_, _, ⟨_, _, _, _, rfl, _⟩, _⟩ := h; rfl) (fun cdv A outer s H E hr => ⟨_,
    pss_cons (ps_set (i := 4) sc66.nd rfl (.inl rfl) pe_bl)
      (pss_cons (ps_try_only rfl rfl ⟨rfl, by decide, .inl T.x14.g⟩ takes0
        (fun W pn xe tk _ => pss_one (ps_set (i := 4) sc66.nd rfl (.inl rfl) (pe_callVS (fnk_of (ok27 T) T.f27.k (fun _ _ _ => rfl)) (hr.mono (by decide)) (by rfl) T.f27.g T.f27.F.kp (fun σ => passAt tk σ) (pa_cons (pv 0) (pa_cons (pv 1) (pa_cons (pv 2) pa_nil))) (pk_cons (pv 3) pk_nil))))
        (fun a oe cls d pn _ _ => pss_one (ps_set (i := 4) sc66.nd rfl (.inl rfl) pe_bl)))
      (pss_one (ps_ret (pv 4)))), fun g ws μ k eg h => ?_⟩)
  refine pu_go eg h fun r hd eg => ?_
  obtain ⟨S, U, c, k, rfl, pS, pU, hc, rfl⟩ := hd
  walk_at "cx"
  refine Go.slots (δ' := [.da (tS S), .da (tS U), .da (certD c), dI (k : Nat), .no]) rfl ?_
  refine go_seq (go_set (ev_c (go_seq (go_tryX T.x14.te ?_))))
  walk_at "go"
  refine ⟨rfl, rfl, _, ⟨S, U, c, k, rfl, pS, pU, hc, rfl⟩, fun r hr => ?_, fun r hr => ?_⟩
  · cases hb : checkL ltS S U k c with
    | true =>
      rw [hb, if_pos rfl] at hr
      cases hr
      walk_at "go"
      rfl
    | false =>
      rw [hb, if_neg (by decide)] at hr
      cases hr
  · cases hb : checkL ltS S U k c with
    | true =>
      rw [hb, if_pos rfl] at hr
      cases hr
    | false =>
      walk_at "go"
      rfl
/-! ### runs -/
theorem app_len (xs : List Str) (x : Ins) : (app xs x).length ≤ xs.length + 1 ∨ (app xs x).length ≤ xs.length + 1 := by
  left
  cases x with
  | pop => simp only [app, List.length_take]; omega
  | dup i =>
    simp only [app, List.length_append]
    have : (xs[xs.length - i]?).toList.length ≤ 1 := by cases xs[xs.length - i]? <;> simp
    omega
  | swap i =>
    simp only [app, List.length_append, List.length_take, List.length_drop]
    omega
theorem insOk_of {r : Nat} {x : Ins} (h : x.valid r) : insOk r x = true := by
  cases x with
  | pop => rfl
  | dup i => exact decide_eq_true h
  | swap i => exact decide_eq_true h
theorem stA_cons (S : List Str) (x : Ins) (L : List Ins) (i : Nat) : stA S (x :: L) (i + 1) = stA (app S x) L i := rfl
theorem runs_stA {r f : Nat} {T : List Str} : ∀ {L : List Ins} {S : List Str}, Runs r f S L T → stA S L L.length = T
  | [], S, h => h
  | x :: L, S, h => by
    rw [List.length_cons, stA_cons]
    exact runs_stA h.2
theorem stA_len {L : List Ins} : ∀ {S : List Str} (i : Nat), (stA S L i).length ≤ S.length + L.length := by
  induction L with
  | nil => intro S i; simp [stA]
  | cons x L ih =>
    intro S i
    cases i with
    | zero => simp [stA]
    | succ i =>
      rw [stA_cons]
      have h1 := ih (S := app S x) i
      have h2 := app_len S x
      rw [List.length_cons]
      omega
theorem runs_at {r f : Nat} {T : List Str} : ∀ {L : List Ins} {S : List Str} {i : Nat} {x : Ins}, Runs r f S L T → L[i]? = some x → Okk r f (stA S L i) x
  | [], _, _, _, _, e => by simp at e
  | y :: L, S, 0, x, h, e => by
    simp at e
    subst e
    exact h.1
  | y :: L, S, i + 1, x, h, e => by
    rw [stA_cons]
    exact runs_at h.2 (by simpa using e)
theorem runs_all {r f : Nat} {T S : List Str} {L : List Ins} (h : Runs r f S L T) (hl : S.length + L.length < 80000) : InsAll r S L := fun i x e => by
  have o := runs_at h e
  exact ⟨insOk_of o.valid, o.need, Nat.lt_of_le_of_lt (stA_len i) hl⟩
theorem lows_ge {r f : Nat} {T S : List Str} {L : List Ins} (h : Runs r f S L T) {y : Int} (hy : y ∈ lowsN S L) : (f : Int) ≤ y := by
  unfold lowsN at hy
  obtain ⟨q, hq, rfl⟩ := List.mem_map.mp hy
  obtain ⟨i, hi, e⟩ := List.mem_iff_getElem.mp hq
  rw [List.getElem_zip] at e
  rw [List.length_zip] at hi
  unfold lensD at hi e
  rw [List.length_map, List.length_map, List.length_range] at hi
  have hi2 : i < L.length := by omega
  have o := runs_at h (List.getElem?_eq_getElem hi2)
  subst e
  simp only [List.getElem_map, List.getElem_range, needD_ins]
  show (f : Int) ≤ ((stA S L i).length : Int) - (L[i].need : Int)
  have := o.low
  omega
theorem min_ex : ∀ (x : Int) (l : List Int), ∃ m, m ∈ x :: l ∧ ∀ y, y ∈ x :: l → m ≤ y
  | x, [] => ⟨x, by simp, fun y hy => by simp at hy; omega⟩
  | x, a :: l => by
    obtain ⟨m, h1, h2⟩ := min_ex a l
    by_cases h : x ≤ m
    · exact ⟨x, List.mem_cons_self, fun y hy => by
        rcases List.mem_cons.mp hy with e | hy
        · omega
        · have := h2 y hy; omega⟩
    · exact ⟨m, List.mem_cons_of_mem _ h1, fun y hy => by
        rcases List.mem_cons.mp hy with e | hy
        · omega
        · exact h2 y hy⟩
theorem depth_S {S T : List Str} {k : Nat} (h : Reach ltS S T k) : depth ltS T k ≤ S.length := by
  have h1 := congrArg List.length h.same
  have h2 := depth_le (lt := ltS) T k
  rw [List.length_take, List.length_take] at h1
  omega
/-- a def without objects that change: what may come out -/
def pq (R : List Sl → (Sl → Prop) → Prop) : Spec := fun ws μ k => μ = [] ∧ ∃ Po, R ws Po ∧ ∀ w, Po w → k w []
theorem pq_go {g : Gr} {N : List Str} {t : TS} {R : List Sl → (Sl → Prop) → Prop} {ws : List Sl} {μ : Mus} {k : Sl → Mus → Prop} (eg : g.ms = μ.map (·.1)) (h : pq R ws μ k)
    (b : ∀ Po, R ws Po → g.ms = [] → Go K g (slots0 N ws) [] t { nx := fun _ _ => Po dN, rt := fun w _ => Po w }) : Go K g (slots0 N ws) μ t (endAE g k) := by
  obtain ⟨rfl, Po, hR, hk⟩ := h
  refine (b Po hR eg).imp (fun _ m e => ?_) (fun w m e => ?_) (fun _ _ h => h.elim) (fun _ _ h => h.elim)
  · exact ⟨[], [], List.nil_sublist _, by rw [show g.ms = [] from eg]; rfl, hk _ e⟩
  · exact ⟨[], [], List.nil_sublist _, by rw [show g.ms = [] from eg]; rfl, hk _ e⟩
theorem CallK.pq {R : List Sl → (Sl → Prop) → Prop} {ws : List Sl} {μ : Mus} {k : Sl → Mus → Prop} (h : ∃ Po, R ws Po ∧ ∀ w, Po w → k w μ) : CallK (pq R) ws μ k := by
  obtain ⟨Po, hR, hk⟩ := h
  refine ⟨[], [], rfl, List.nodup_nil, fun w m => Po w ∧ m = [], ⟨rfl, Po, hR, fun w hw => ⟨hw, rfl⟩⟩, fun w m news _ ⟨h1, h2⟩ => ?_⟩
  subst h2
  show k w (μ ++ [])
  rw [List.append_nil]; exact hk w h1
theorem sc67 : FnScope ["_law_pile_here", "_law_goal_here", "_law_bound", "_law_caught", "_law_steps_here", "e"] ["_law_pile_here", "_law_goal_here", "_law_bound"] (defScope (topS 67)) := ⟨rfl, rfl, rfl, by decide +kernel, rfl, by decide +kernel, by decide +kernel⟩
def R67 (ws : List Sl) (Po : Sl → Prop) : Prop := ∃ (S T : List Str) (r : Nat), ws = [.da (tS S), .da (tS T), dI (r : Nat)] ∧ Pil S ∧ Pil T ∧ 2 ≤ r ∧ r ≤ 60 ∧
  (∀ w, barr S T r = some w → Po (dT [.str "blocked", certP S T r w])) ∧ (barr S T r = none → ∀ m : Int, (depth ltS T r : Int) ≤ m → Po (dT [.str "built", tS T, .int m]))
theorem ok67 (T : Ty K mg) : FnOk P w K mg base CX0 10 T.f67.a T.f67.d ["_law_pile_here", "_law_goal_here", "_law_bound"] (spG K (pq R67)) := by
  refine fn_go T.f67.F sc67 (fun ws μ k h => by obtain ⟨_, _, ⟨_, _, _, rfl, _⟩, _⟩ := h; rfl) (fun cdv A outer s H E hr => ⟨_,
    pss_cons (ps_set (i := 3) sc67.nd rfl (.inl rfl) pe_non)
      (pss_cons (ps_set (i := 4) sc67.nd rfl (.inl rfl) (pe_tupF pa_nil))
      (pss_cons (ps_try_keep (i := 5) rfl rfl sc67.nd rfl rfl ⟨rfl, by decide, .inl T.x16.g⟩
        (fun W pn xe tk _ => pss_one (ps_set (i := 4) sc67.nd rfl (.inl rfl) (pe_callVS (fnk_of (ok50 T) T.k50 (fun _ _ _ => by simp)) (hr.mono (by decide)) (by rfl) T.f50.g T.f50.F.kp (fun σ => passAt tk σ) (pa_cons (pv 0) (pa_cons (pv 1) pa_nil)) (pk_cons (pv 2) pk_nil))))
        (fun a oe pn => pss_one (ps_set (i := 3) sc67.nd rfl (.inl rfl) (pv 5))))
      (pss_cons (ps_if (pt_cmpR op_notN (pv 3) pe_non (nomark _)) (pss_one (ps_ret (pe_tupF (pa_cons pe_str (pa_cons (pe_xk T.xf16 T.x16.nf (pv 3)) pa_nil))))) pss_nil)
      (pss_one (ps_ret (pe_tupF (pa_cons pe_str (pa_cons (pe_callV (ok55 T.toTx) (hr.mono (by decide)) (by rfl) T.f55.g T.f55.F.kp pass0 (pa_cons (pv 0) (pa_cons (pv 4) pa_nil)) (pk_cons (pv 2) pk_nil)) (pa_cons (pe_callV (ok56 T.toTx) (hr.mono (by decide)) (by rfl) T.f56.g T.f56.F.kp pass0 (pa_cons (pv 0) (pa_cons (pv 4) pa_nil)) (pk_cons (pv 2) pk_nil)) pa_nil))))))))), fun g ws μ k eg h => ?_⟩)
  refine pq_go eg h fun Po hR eg => ?_
  obtain ⟨S, U, r, rfl, pS, pU, hr2, hr3, h1, h2⟩ := hR
  walk_at "cx"
  refine Go.slots (δ' := [.da (tS S), .da (tS U), dI (r : Nat), .no, .no, .no]) rfl ?_
  refine go_seq (go_set (ev_c (go_seq (go_set (ev_tup' (ea_nil ⟨[], rfl, rfl, ?_⟩))))))
  refine go_tryY (i := 4) (j := 3) (l := 5) T.x16.te (fun _ _ _ _ h => h) (by show 5 < 6; decide) (by show 3 < 6; decide) (by decide) ?_
  walk_at "go"
  refine ⟨rfl, rfl, fun o => (∃ L : List Ins, o = .inl (dT (L.map insD)) ∧ barr S U r = none ∧ Runs r (depth ltS U r) S L U ∧ L.length ≤ 60000) ∨ ∃ w, barr S U r = some w ∧ o = .inr (.da (certP S U r w)), ⟨S, U, r, rfl, pS, pU, hr2, hr3, fun hb L hL hl => .inl ⟨L, rfl, hb, hL, hl⟩, fun w hw => .inr ⟨w, hw, rfl⟩⟩, ?_, ?_⟩
  · rintro o (⟨L, e, hb, hL, hl⟩ | ⟨w, _, e⟩)
    rotate_left
    · cases e
    cases e
    have pSl := pS.len
    walk_at "go"
    refine ⟨fun h => (by cases h), fun _ => ?_⟩
    walk_at "go"
    have hall := runs_all hL (by omega)
    have hend := runs_stA hL
    obtain ⟨m, hm1, hm2⟩ := min_ex (S.length : Int) (lowsN S L)
    refine ⟨rfl, rfl, _, ⟨S, L, r, rfl, hall, by omega, rfl⟩, ?_⟩
    walk_at "go"
    refine ⟨rfl, rfl, _, ⟨S, L, r, rfl, hall, hl, fun k => by have := stA_len (L := L) (S := S) k; omega, m, rfl, hm1, hm2⟩, ?_⟩
    walk_at "go"
    rw [hend]
    refine h2 hb m ?_
    rcases List.mem_cons.mp hm1 with e | e
    · have := depth_S (barrier_none.mp hb)
      omega
    · exact lows_ge hL e
  · rintro o (⟨L, e, _⟩ | ⟨w, hw, e⟩)
    · cases e
    cases e
    exact ⟨_, rfl, h1 w hw⟩
end
end De
end
section
set_option Elab.async false
set_option linter.all false
set_option maxRecDepth 100000
set_option maxHeartbeats 4000000
/-! the law: offered -/
namespace De
open PySem L2 PySem.Spec PyProof.Rows RZ
section
variable {K : PySem.W.Frag} {g : Gr} {δ : List Sl} {μ : Mus} {k : Sl → Mus → Prop}
theorem os_dropT {ds : List PyData} {i : Int} {n : Nat} (e : i = (n : Int)) (q : k (dT (ds.drop n)) μ) : OpSl K g δ (rSlF K) (dT ds) (some i) none μ k := os_tup (by rw [e, cut_from]; exact q)
end
local macro_rules | `(tactic| walk_at "de") => `(tactic| first
  | with_reducible refine go_seq ?_
  | with_reducible refine go_set ?_
  | with_reducible refine go_asg ?_
  | with_reducible refine go_ret ?_
  | with_reducible refine go_if ?_
  | with_reducible refine go_next ?_
  | with_reducible refine go_drop ?_
  | ((with_reducible apply ev_da); exact rfl)
  | ((with_reducible apply ev_va); exact rfl)
  | with_reducible refine ev_c ?_
  | with_reducible refine ev_op ?_
  | with_reducible refine ev_un ?_
  | with_reducible refine ea_nil ?_
  | with_reducible refine ea_cons ?_
  | with_reducible refine ev_sortset ?_
  | ((with_reducible apply ev_cells); (focus assumption); (focus assumption))
  | ((with_reducible apply ev_reach); (focus assumption); (focus assumption))
  | ((with_reducible apply ev_made); (focus assumption); (focus assumption))
  | with_reducible refine ev_height ?_
  | ((with_reducible apply ev_methS); (focus (decide +kernel)); (focus (decide +kernel)); (focus (decide +kernel)))
  | with_reducible refine ev_callS ?_
  | with_reducible refine ev_count ?_
  | with_reducible refine ev_tcount ?_
  | with_reducible refine oc_len_c ?_
  | with_reducible refine ev_cb ?_
  | with_reducible refine eb_test ?_
  | with_reducible refine eb_B ?_
  | with_reducible refine eb_and ?_
  | with_reducible refine eb_or ?_
  | with_reducible refine eb_not ?_
  | with_reducible refine ev_andV ?_
  | with_reducible refine ev_orV ?_
  | with_reducible refine ev_notV ?_
  | with_reducible refine ev_sl ?_
  | with_reducible refine eo_no ?_
  | with_reducible refine eo_some ?_
  | with_reducible refine ev_tup' ?_
  | with_reducible refine o_pen0 ?_
  | with_reducible refine o_pen1 ?_
  | with_reducible refine o_pen2 ?_
  | with_reducible refine ev_draw ?_
  | with_reducible refine ev_callX ?_
  | with_reducible refine ev_callP ?_
  | with_reducible refine ev_callNP ?_
  | with_reducible refine ev_call ?_
  | with_reducible refine ev_callN ?_
  | with_reducible refine ev_chain ?_
  | with_reducible refine o_I0 ?_
  | with_reducible refine o_eqI ?_
  | with_reducible refine o_neI ?_
  | with_reducible refine o_eqS ?_
  | with_reducible refine o_neS ?_
  | with_reducible refine o_isN ?_
  | with_reducible refine o_notN ?_
  | with_reducible refine o_ltS ?_
  | with_reducible refine o_U ?_
  | with_reducible refine oc_len_tS ?_
  | with_reducible refine oc_len_lS ?_
  | with_reducible refine oc_len_t ?_
  | with_reducible refine oc_len_l ?_
  | with_reducible refine o_ix0 ?_
  | with_reducible refine o_ix1 ?_
  | with_reducible refine ev_dnew ?_
  | with_reducible refine oc_isiT ?_
  | with_reducible refine oc_isiTL ?_
  | with_reducible refine oc_isiI ?_
  | with_reducible refine oc_isiIB ?_
  | with_reducible refine oc_isiS ?_
  | with_reducible refine oc_min2 ?_
  | with_reducible refine oc_max2 ?_
  | with_reducible refine oc_abs ?_
  | with_reducible refine oc_intB ?_
  | with_reducible refine oc_tup_lS ?_
  | with_reducible refine oc_tup_l ?_
  | with_reducible refine o_inF ?_
  | with_reducible refine o_inT ?_
  | with_reducible refine o_inLF ?_
  | with_reducible refine o_inLT ?_
  | with_reducible refine eb_yes ?_
  | (refine Exists.intro _ (Exists.intro _ (Exists.intro _ (Exists.intro _ (Exists.intro _ (Exists.intro _ (Exists.intro _ (Exists.intro _ (And.intro rfl (And.intro rfl ?_))))))))))
  | (refine Exists.intro _ (And.intro (show dats _ = some _ from rfl) (And.intro (show Nat.ble _ 60 = true from rfl) ?_)))
  | with_reducible refine Exists.intro _ (And.intro rfl ?_))
local macro_rules | `(tactic| walk_at "cx") => `(tactic| try simp only [cx_K, cx_K'])
local macro_rules | `(tactic| walk_at "go") => `(tactic| repeat walk_at "de")

section
variable {P : Program} {w : World} {K : PySem.W.Frag} {mg : Str → Option Value} {base : Heap}
theorem sc68 : FnScope ["_law_pen_here", "_law_made", "_law_ground", "_law_found", "_law_given", "_law_shift"] ["_law_pen_here", "_law_made", "_law_ground"] (defScope (topS 68)) := ⟨rfl, rfl, rfl, by decide +kernel, rfl, by decide +kernel, by decide +kernel⟩
def R68 (args : List Sl) (Po : Sl → Prop) : Prop := ∃ (cs : List (Cert Str)) (gr : Nat), args = [dL (cs.map certD), dI (gr : Nat)] ∧ cs.length ≤ 8 ∧ (∀ c, c ∈ cs → Cok c) ∧ ∀ ds : List (Cert Str), ds.length ≤ 24 → (∀ c, c ∈ ds → Cok c) → Po (dL (ds.map certD))
def I68 (a f : Addr) (cs : List (Cert Str)) (gr b i : Nat) (δ' : List Sl) (μ' : Mus) : Prop := ∃ (m' : Mu) (ds : List (Cert Str)) (x y : Sl), δ' = [.va (.ref a), dL (cs.map certD), dI (gr : Nat), .va (.ref f), x, y] ∧ μ' = [(a, m'), (f, .lis ((ds.map certD).map Sl.da))] ∧ Pw m' (b + i) ∧ ds.length = cs.length + 2 * i ∧ ∀ c, c ∈ ds → Cok c
theorem ok68 (T : Tx K mg) : FnOk P w K mg base CX0 2 T.f68.a T.f68.d ["_law_pen_here", "_law_made", "_law_ground"] (spG K (Spn R68 8)) := by
  refine fn_go T.f68.F sc68 (pn_len fun args Po h => by obtain ⟨_, _, rfl, _⟩ := h; rfl) (fun cdv A outer s H E hr => ⟨_, (pss_cons (ps_set (i := 3) sc68.nd rfl (.inl rfl) (pe_callTy (r := Evl.rListS K) call_listS (by rfl) T.z_list (by decide +kernel) (pa_cons (pv 1) pa_nil)))
      (pss_cons (ps_for PassesOwn.never rfl (pi_list (pv 1)) (pg_name (i := 4) sc68.nd rfl (.inl rfl)) (pss_cons (ps_set (i := 5) sc68.nd rfl (.inl rfl) (pe_op op_sub (pe_call (ok59 T) (hr.mono (by decide)) (by rfl) T.f59.g T.f59.F.kp T.f59.b .nil pass0 (pa_cons (pv 0) (pa_cons pe_int pa_nil))) pe_int))
      (pss_cons (ps_expr (pe_bmK (K := K) rfl PySem.F.plainAttrs_list PySem.F.slot_list_append PySem.F.type_list_append mt_append (pv 3) (pa_cons (pe_op (r := rCatF K) op_catF (pe_tupF (pa_cons (pe_op op_add (pe_ix (r := rIx K) ix_seq (pv 4) pe_int (fun _ _ => rfl)) (pv 5)) pa_nil)) (pe_slice (r := rSlF K) sl_tupF (pv 4) (po_some pe_int) po_none)) pa_nil)))
      (pss_one (ps_expr (pe_bmK (K := K) rfl PySem.F.plainAttrs_list PySem.F.slot_list_append PySem.F.type_list_append mt_append (pv 3) (pa_cons (pe_op (r := rCatF K) op_catF (pe_tupF (pa_cons (pv 2) (pa_cons (pe_ifExp (pt_cmpR op_eq (pv 2) pe_int (nomark _)) (pe_tupF pa_nil) (pe_ix (r := rIx K) ix_seq (pv 4) pe_int (fun _ _ => rfl))) pa_nil))) (pe_slice (r := rSlF K) sl_tupF (pv 4) (po_some pe_int) po_none)) pa_nil)))))))
      (pss_one (ps_ret (pv 3))))), fun g ws μ k eg h => ?_⟩)
  refine pn_go eg h fun a m b args Po hR hp hb eg => ?_
  obtain ⟨cs, gr, rfl, hcs, hok, hk⟩ := hR
  walk_at "cx"
  refine Go.slots (δ' := [.va (.ref a), dL (cs.map certD), dI (gr : Nat), .no, .no, .no]) rfl ?_
  walk_at "go"
  refine oc_list_l fun f => ?_
  walk_at "go"
  refine go_forL ?_
  walk_at "go"
  refine ⟨I68 a f cs gr b, ⟨m, cs, .no, .no, rfl, rfl, hp, rfl, hok⟩, ?_, ?_⟩
  · rintro i _ _ hi ⟨m1, ds, x, y, rfl, rfl, hp1, hdl, hdok⟩ d hd
    rw [List.length_map] at hi
    rw [List.getElem?_map, List.getElem?_eq_getElem hi] at hd
    cases hd
    have hc : Cok cs[i] := hok _ (List.getElem_mem _)
    generalize cs[i] = c at hc
    obtain ⟨rn, dt, hwt, hrn⟩ := whyT_shape c.why
    have hcd : certD c = .tuple [.int c.floor, tS c.wit, .str rn, dt] := by unfold certD; rw [hwt]; rfl
    rw [hcd]
    walk_at "go"
    refine ⟨a, m1, _, 5, _, rfl, rfl, hp1, by omega, by decide, by decide, fun v m2 hv hp2 => ?_⟩
    walk_at "go"
    refine ev_app ?_
    walk_at "go"
    refine ⟨f, 1, _, rfl, rfl, ?_⟩
    walk_at "go"
    refine os_dropT (n := 1) rfl ?_
    refine o_cat (by show 4 ≤ sizeLine; decide) ?_
    walk_at "go"
    refine ⟨_, _, rfl, rfl, by rw [List.length_map, List.length_map]; omega, ?_⟩
    walk_at "go"
    refine ev_app ?_
    walk_at "go"
    refine ⟨f, 1, _, rfl, rfl, ?_⟩
    walk_at "go"
    refine Ev.imp (k := fun w μ' => w = .da (tS (if gr = 0 then [] else c.wit)) ∧ μ' = [(a, m2), (f, .lis (((ds.map certD).map Sl.da) ++ [dT ([.int (c.floor + ((v : Int) - 2))] ++ List.drop 1 [.int c.floor, tS c.wit, .str rn, dt])]))]) (ev_if ?_) ?_
    · walk_at "go"
      refine ⟨fun h => ?_, fun h => ?_⟩
      · have h' : gr = 0 := by
          have := of_decide_eq_true h
          omega
        refine ev_tup' (ea_nil ⟨[], rfl, rfl, ?_⟩)
        rw [if_pos h']
        exact ⟨rfl, rfl⟩
      · have h' : ¬ gr = 0 := by
          have := of_decide_eq_false h
          omega
        walk_at "go"
        rw [if_neg h']
        exact ⟨rfl, rfl⟩
    rintro _ _ ⟨rfl, rfl⟩
    walk_at "go"
    refine os_dropT (n := 2) rfl ?_
    refine o_cat (by show 4 ≤ sizeLine; decide) ?_
    walk_at "go"
    refine ⟨_, _, rfl, rfl, by rw [List.length_append, List.length_map, List.length_map]; simp; omega, ?_⟩
    have pn : Pil [] := ⟨fun _ h => (by cases h), by decide⟩
    refine ⟨m2, ds ++ [⟨c.floor + ((v : Int) - 2), c.wit, c.why⟩, ⟨(gr : Nat), if gr = 0 then [] else c.wit, c.why⟩], _, _, rfl, ?_, hp2, by rw [List.length_append, hdl]; simp; omega, fun c' hc' => ?_⟩
    · rw [List.map_append, List.map_append]
      simp only [List.map_cons, List.map_nil, certD, hwt, List.set_cons_succ, List.set_cons_zero, List.append_assoc]
      rfl
    · rcases List.mem_append.mp hc' with h | h
      · exact hdok c' h
      · simp only [List.mem_cons, List.not_mem_nil, or_false] at h
        rcases h with rfl | rfl
        · exact ⟨hc.wit, hc.why⟩
        · refine ⟨?_, hc.why⟩
          show Pil (if gr = 0 then [] else c.wit)
          split
          · exact pn
          · exact hc.wit
  · rintro _ _ ⟨m1, ds, x, y, rfl, rfl, hp1, hdl, hdok⟩
    rw [List.length_map] at hp1 hdl
    refine go_ret (ev_frz ?_)
    walk_at "go"
    exact ⟨f, ds.map certD, [(a, m1)], rfl, rfl, by rw [eg]; simp, m1, [], rfl, hp1.mono (by omega), hk ds (by omega) hdok⟩
end
end De
end
section
set_option Elab.async false
set_option linter.all false
set_option maxRecDepth 100000
set_option maxHeartbeats 4000000
/-! the law: a pair is right -/
namespace De
open PySem L2 PySem.Spec PyProof.Rows RZ
section
variable {K : PySem.W.Frag} {g : Gr} {δ : List Sl} {μ : Mus} {k : Sl → Mus → Prop} {te ta tb : TE}
theorem o_neB {i j : Bool} (q : k (dB (!decide (i = j))) μ) : Op2 K g δ rNe (dB i) (dB j) μ k := fun σ H B c v1 v2 r1 r2 Q hq => by
  cases dp_bool r1; cases dp_bool r2
  refine ⟨rfl, hq.go c q ?_⟩
  have : decide (V.bl i = V.bl j) = decide (i = j) := by simp
  rw [this]; exact .bl _
theorem shaped_int (i : Int) : SeqAt.shaped (.int i) = true := shaped_pl rfl (by show 0 ≤ 64; decide)
theorem o_neDI {i j : Int} (q : k (dB (!decide (i = j))) μ) : Op2 K g δ (rNeD K) (dI i) (dI j) μ k := o_neD (shaped_int i) (shaped_int j) (by
  rw [eqv_dec (p := i = j) rfl rfl ⟨fun h => by injection h, fun h => by rw [h]⟩]; exact q)
theorem ints_pl (cs : List Int) : plD (inD cs) = true := by simp only [plD]; exact plDs_ints cs
theorem o_neDL {cs ds : List Int} (q : k (dB (!decide (cs = ds))) μ) : Op2 K g δ (rNeD K) (.da (inD cs)) (.da (inD ds)) μ k := o_neD (ints_sh cs) (ints_sh ds) (by
  have inj : ∀ {a b : List Int}, a.map PyData.int = b.map PyData.int → a = b := fun {a b} h => by
    induction a generalizing b with
    | nil => cases b with
      | nil => rfl
      | cons _ _ => simp at h
    | cons x a ih => cases b with
      | nil => simp at h
      | cons y b =>
        simp only [List.map_cons, List.cons.injEq, PyData.int.injEq] at h
        rw [h.1, ih h.2]
  rw [eqv_dec (p := cs = ds) (ints_pl cs) (ints_pl ds) ⟨fun h => inj (by injection h), fun h => by rw [h]⟩]; exact q)
theorem o_eqSame {d : PyData} (hp : plD d = true) (hd : d.depth ≤ 64) (q : k (dB true) μ) : Op2 K g δ (rEqD K) (.da d) (.da d) μ k := o_eqD (shaped_pl hp hd) (shaped_pl hp hd) (by
  rw [(eqv_pl d d hp hp).mpr rfl]; exact q)
theorem ev_listRg (h : Ev K g δ μ ta fun w μ1 => Ev K g δ μ1 tb fun w2 μ2 => ∃ i j : Int, w = dI i ∧ w2 = dI j ∧ RgOk i j ∧ k (.da (inD ((List.range (j - i).toNat).map fun (n : Nat) => i + (n : Nat)))) μ2) : Ev K g δ μ (tLstRg (tRg2 ta tb)) k := fun σ H B c Q hq =>
  h σ H B c _ fun w μ1 v H1 B1 h1 c1 s1 r1 => h1 σ H1 B1 c1 _ fun w2 μ2 v2 H2 B2 ⟨i, j, e1, e2, hok, hk⟩ c2 s2 r2 => by
    subst e1 e2
    cases dp_int r1; cases dp_int r2
    refine ⟨i, j, rfl, rfl, hok, fun q hq' => ?_⟩
    obtain ⟨c3, s3⟩ := c2.new (o := .lst (rgV i j)) hq'
    refine hq _ _ _ _ _ hk c3 ((s1.trans s2).trans s3) (.lst (.inl (.inl upd_same)) ?_)
    have : ∀ (l : List Nat), DpAll K (upd B2 q (.lst (rgV i j))) (l.map fun n => V.int (i + (n : Nat))) ((l.map fun (n : Nat) => i + (n : Nat)).map PyData.int) := by
      intro l
      induction l with
      | nil => exact .nil
      | cons a l ih => exact .cons (.int _) ih
    exact this _
end
local macro_rules | `(tactic| walk_at "de") => `(tactic| first
  | with_reducible refine go_seq ?_
  | with_reducible refine go_set ?_
  | with_reducible refine go_asg ?_
  | with_reducible refine go_ret ?_
  | with_reducible refine go_if ?_
  | with_reducible refine go_next ?_
  | with_reducible refine go_drop ?_
  | ((with_reducible apply ev_da); exact rfl)
  | ((with_reducible apply ev_va); exact rfl)
  | with_reducible refine ev_c ?_
  | with_reducible refine ev_op ?_
  | with_reducible refine ev_un ?_
  | with_reducible refine ea_nil ?_
  | with_reducible refine ea_cons ?_
  | with_reducible refine ev_sortset ?_
  | ((with_reducible apply ev_cells); (focus assumption); (focus assumption))
  | ((with_reducible apply ev_reach); (focus assumption); (focus assumption))
  | ((with_reducible apply ev_made); (focus assumption); (focus assumption))
  | with_reducible refine ev_height ?_
  | ((with_reducible apply ev_methS); (focus (decide +kernel)); (focus (decide +kernel)); (focus (decide +kernel)))
  | with_reducible refine ev_callS ?_
  | with_reducible refine ev_count ?_
  | with_reducible refine ev_tcount ?_
  | with_reducible refine oc_len_c ?_
  | with_reducible refine ev_cb ?_
  | with_reducible refine eb_test ?_
  | with_reducible refine eb_B ?_
  | with_reducible refine eb_and ?_
  | with_reducible refine eb_or ?_
  | with_reducible refine eb_not ?_
  | with_reducible refine ev_andV ?_
  | with_reducible refine ev_orV ?_
  | with_reducible refine ev_notV ?_
  | with_reducible refine ev_if ?_
  | with_reducible refine ev_sl ?_
  | with_reducible refine eo_no ?_
  | with_reducible refine eo_some ?_
  | with_reducible refine ev_tup' ?_
  | with_reducible refine o_pen0 ?_
  | with_reducible refine o_pen1 ?_
  | with_reducible refine o_pen2 ?_
  | with_reducible refine ev_draw ?_
  | with_reducible refine ev_callX ?_
  | with_reducible refine ev_callP ?_
  | with_reducible refine ev_callNP ?_
  | with_reducible refine ev_call ?_
  | with_reducible refine ev_callN ?_
  | with_reducible refine ev_chain ?_
  | with_reducible refine o_I0 ?_
  | with_reducible refine o_eqI ?_
  | with_reducible refine o_neI ?_
  | with_reducible refine o_eqS ?_
  | with_reducible refine o_neS ?_
  | with_reducible refine o_isN ?_
  | with_reducible refine o_notN ?_
  | with_reducible refine o_ltS ?_
  | with_reducible refine o_U ?_
  | with_reducible refine oc_len_tS ?_
  | with_reducible refine oc_len_lS ?_
  | with_reducible refine oc_len_t ?_
  | with_reducible refine oc_len_l ?_
  | with_reducible refine o_ix0 ?_
  | with_reducible refine o_ix1 ?_
  | with_reducible refine ev_dnew ?_
  | with_reducible refine oc_isiT ?_
  | with_reducible refine oc_isiTL ?_
  | with_reducible refine oc_isiI ?_
  | with_reducible refine oc_isiIB ?_
  | with_reducible refine oc_isiS ?_
  | with_reducible refine oc_min2 ?_
  | with_reducible refine oc_max2 ?_
  | with_reducible refine oc_abs ?_
  | with_reducible refine oc_intB ?_
  | with_reducible refine oc_tup_lS ?_
  | with_reducible refine oc_tup_l ?_
  | with_reducible refine o_inF ?_
  | with_reducible refine o_inT ?_
  | with_reducible refine o_inLF ?_
  | with_reducible refine o_inLT ?_
  | with_reducible refine eb_yes ?_
  | (refine Exists.intro _ (Exists.intro _ (Exists.intro _ (Exists.intro _ (Exists.intro _ (Exists.intro _ (Exists.intro _ (Exists.intro _ (And.intro rfl (And.intro rfl ?_))))))))))
  | (refine Exists.intro _ (And.intro (show dats _ = some _ from rfl) (And.intro (show Nat.ble _ 60 = true from rfl) ?_)))
  | with_reducible refine Exists.intro _ (And.intro rfl ?_))
local macro_rules | `(tactic| walk_at "cx") => `(tactic| try simp only [cx_K, cx_K'])
local macro_rules | `(tactic| walk_at "go") => `(tactic| repeat walk_at "de")

section
variable {P : Program} {w : World} {K : PySem.W.Frag} {mg : Str → Option Value} {base : Heap}
theorem why_in {S T : List Str} {k : Nat} {w : Why Str} (h : barr S T k = some w) : match w with | .ground _ => True | .missing v => v ∈ T | .edge vs => (∀ v, v ∈ vs → v ∈ T) ∧ vs.length ≤ T.length := by
  have hv : ∀ v, v ∈ vals ltS T k → v ∈ T := fun v hv => List.mem_of_mem_drop (mem_dist.mp hv)
  have hl : (vals ltS T k).length ≤ T.length := by
    have := nd_le ltS_ord (T.drop (depth ltS T k))
    rw [List.length_drop] at this
    exact Nat.le_trans this (Nat.sub_le _ _)
  unfold barr barrier at h
  by_cases q : cp S T < depth ltS T k
  · rw [if_pos q] at h; cases h; trivial
  · rw [if_neg q] at h
    cases hf : firstMissing (S.drop (depth ltS T k)) (vals ltS T k) with
    | some v =>
      rw [hf] at h
      cases h
      exact hv v (firstMissing_some hf).1
    | none =>
      rw [hf] at h
      unfold barrier2 at h
      by_cases q2 : k < (vals ltS T k).length ∧ ∃ x, S[depth ltS T k]? = some x ∧ x ∉ vals ltS T k
      · rw [if_pos q2] at h
        cases h
        exact ⟨fun v h => hv v (List.mem_of_mem_take h), by rw [List.length_take]; omega⟩
      · rw [if_neg q2] at h
        cases h
theorem cert_eq (S T : List Str) (k : Nat) (w : Why Str) : certP S T k w = certD (certOf ltS T k w) := rfl
theorem wit_pil {T : List Str} (p : Pil T) (k : Nat) : Pil (if 0 < depth ltS T k then (vals ltS T k).take (k + 1) else []) := by
  have hl : (vals ltS T k).length ≤ T.length := by
    have := nd_le ltS_ord (T.drop (depth ltS T k))
    rw [List.length_drop] at this
    exact Nat.le_trans this (Nat.sub_le _ _)
  split
  · exact p.sub (fun s h => List.mem_of_mem_drop (mem_dist.mp (List.mem_of_mem_take h))) (by rw [List.length_take]; omega)
  · exact ⟨fun _ h => (by cases h), by decide⟩
theorem cert_ok {S T : List Str} {k : Nat} {w : Why Str} (p : Pil T) (h : barr S T k = some w) : Cok (certOf ltS T k w) := by
  refine ⟨wit_pil p k, ?_⟩
  have := why_in h
  have := p.len
  cases w with
  | ground i => trivial
  | missing v => trivial
  | edge vs => show vs.length < 1000; omega
theorem ok_ground : okS "ground" = true := by decide +kernel
theorem ok_missing : okS "missing" = true := by decide +kernel
theorem ok_edge : okS "edge" = true := by decide +kernel
theorem ok_blocked : okS "blocked" = true := by decide +kernel
theorem cert_pl {S T : List Str} {k : Nat} {w : Why Str} (p : Pil T) (h : barr S T k = some w) : plD (.tuple [.str "blocked", certP S T k w]) = true := by
  have h1 := plDs_str (wit_pil p k).ok
  have h2 := why_in h
  unfold certP
  cases w with
  | ground i => simp only [whyT, List.cons_append, List.nil_append, plD, plDs, ok_blocked, ok_ground, h1]; rfl
  | missing v => simp only [whyT, List.cons_append, List.nil_append, plD, plDs, ok_blocked, ok_missing, p.ok v h2, h1]; rfl
  | edge vs => simp only [whyT, List.cons_append, List.nil_append, plD, plDs, ok_blocked, ok_edge, h1, plDs_str fun v hv => p.ok v (h2.1 v hv)]; rfl
theorem cert_dep (S T : List Str) (k : Nat) (w : Why Str) : (PyData.tuple [.str "blocked", certP S T k w]).depth ≤ 64 := by
  unfold certP
  cases w <;> simp [whyT, PyData.depth, PyData.depthAll, depthAll_str]
theorem sc69 : FnScope ["_law_pile_here", "_law_goal_here", "_law_bound", "_law_offered_here", "_law_told", "_law_found", "_law_accepted", "_law_built_here", "_law_given"] ["_law_pile_here", "_law_goal_here", "_law_bound", "_law_offered_here"] (defScope (topS 69)) := ⟨rfl, rfl, rfl, by decide +kernel, rfl, by decide +kernel, by decide +kernel⟩
def D69 (ws : List Sl) (r : Sl) : Prop := ∃ (S T : List Str) (k : Nat) (cs : List (Cert Str)), ws = [.da (tS S), .da (tS T), dI (k : Nat), dL (cs.map certD)] ∧ Pil S ∧ Pil T ∧ 2 ≤ k ∧ k ≤ 60 ∧ (∀ c, c ∈ cs → Cok c) ∧ cs.length < 1000 ∧ r = dB true
theorem ok69 (T : Ty K mg) : FnOk P w K mg base CX0 11 T.f69.a T.f69.d ["_law_pile_here", "_law_goal_here", "_law_bound", "_law_offered_here"] (spG K (pu D69)) := by
  refine fn_go T.f69.F sc69 (fun ws μ k h => by obtain ⟨_, _, ⟨_, _, _, _, rfl, _⟩, _⟩ := h; rfl) (fun cdv A outer s H E hr => ⟨_, (pss_cons (ps_set (i := 4) sc69.nd rfl (.inl rfl) (pe_callN (ok11 T.toTx) (hr.mono (by decide)) (by rfl) T.f11.g T.f11.F.kp T.f11.k pass0 (pa_cons (pv 0) (pa_cons (pv 1) pa_nil)) (pk_cons (pv 2) pk_nil)))
      (pss_cons (ps_set (i := 5) sc69.nd rfl (.inl rfl) (pe_callN (ok5 T.toTx) (hr.mono (by decide)) (by rfl) T.f5.g T.f5.F.kp T.f5.k pass0 (pa_cons (pv 0) (pa_cons (pv 1) pa_nil)) (pk_cons (pv 2) pk_nil)))
      (pss_cons (ps_if (PW.pt (pw_or (pt_cmpR op_ne (pe_callN (ok10 T.toTx) (hr.mono (by decide)) (by rfl) T.f10.g T.f10.F.kp T.f10.k pass0 (pa_cons (pv 0) (pa_cons (pv 1) pa_nil)) (pk_cons (pv 2) pk_nil)) (pe_cmpR op_eq (pe_ix (r := rIx K) ix_seq (pv 4) pe_int (fun _ _ => rfl)) pe_str (nomark _)) (nomark _)) (pw_or1 (pt_cmpR op_ne (pe_cmpR (r := rNeD K) (op_neD hr.units) (pv 5) (pe_lst pa_nil) (nomark _)) (pe_cmpR op_eq (pe_ix (r := rIx K) ix_seq (pv 4) pe_int (fun _ _ => rfl)) pe_str (nomark _)) (nomark _))))) (pss_one (ps_ret pe_bl)) pss_nil)
      (pss_cons (ps_setLc (i := 6) (g := gName 8) (tt := _) (own := [("_law_given", 8)]) rfl sc69.nd rfl rfl (sw_true rfl rfl rfl (by decide +kernel)) (pi_list (pv 3)) (blkOk_by (N := ["_law_pile_here", "_law_goal_here", "_law_bound", "_law_offered_here", "_law_told", "_law_found", "_law_accepted", "_law_built_here", "_law_given"]) (sc := defScope (topS 69)) (own := [("_law_given", 8)]) (by decide +kernel)) (fun _ _ _ _ _ => pg_name (i := 8) sc69.nd rfl (.inl rfl)) (fun _ _ _ _ _ => pts_one (pt_val (pe_call (ok66 T) (hr.mono (by decide)) (by rfl) T.f66.g T.f66.F.kp T.f66.b .nil pass0 (pa_cons (pv 0) (pa_cons (pv 1) (pa_cons (pv 8) (pa_cons (pv 2) pa_nil))))))) (fun _ _ _ _ _ => pv 8))
      (pss_cons (ps_set (i := 7) sc69.nd rfl (.inl rfl) (pe_call (ok67 T) (hr.mono (by decide)) (by rfl) T.f67.g T.f67.F.kp T.f67.b .nil pass0 (pa_cons (pv 0) (pa_cons (pv 1) (pa_cons (pv 2) pa_nil)))))
      (pss_cons (ps_if (pt_cmpR op_eq (pe_ix (r := rIx K) ix_seq (pv 4) pe_int (fun _ _ => rfl)) pe_str (nomark _)) (pss_one (ps_ret (pe_and (pe_cmpR (r := rEqD K) (op_eqD hr.units) (pv 7) (pv 4) (nomark _)) (pe_one (pe_call (ok66 T) (hr.mono (by decide)) (by rfl) T.f66.g T.f66.F.kp T.f66.b .nil pass0 (pa_cons (pv 0) (pa_cons (pv 1) (pa_cons (pe_ix (r := rIx K) ix_seq (pv 4) pe_int (fun _ _ => rfl)) (pa_cons (pv 2) pa_nil))))))))) pss_nil)
      (pss_cons (ps_if (PW.pt (pw_or (pt_cmpR (r := rNeD K) (op_neD hr.units) (pv 6) (pe_lst pa_nil) (nomark _)) (pw_or (pt_cmpR (r := rNeD K) (op_neD hr.units) (pv 5) (pe_listRg rfl (by rfl) T.z_list (prg_2 (by rfl) T.z_range (pe_ix (r := rIx K) ix_seq (pv 5) pe_int (fun _ _ => rfl)) (pe_op op_add (pe_ix (r := rIx K) ix_seq (pv 5) pe_int (fun _ _ => rfl)) (pe_callB (r := Evl.rLenS K) call_lenS (by rfl) T.z_len (by decide +kernel) (pa_cons (pv 5) pa_nil))))) (nomark _)) (pw_or1 (pt_cmpR (r := rNeD K) (op_neD hr.units) (pe_ix (r := rIx K) ix_seq (pv 5) pe_int (fun _ _ => rfl)) (pe_ix (r := rIx K) ix_seq (pv 4) pe_int (fun _ _ => rfl)) (nomark _)))))) (pss_one (ps_ret pe_bl)) pss_nil)
      (pss_one (ps_ret (pe_and (pe_cmpR op_eq (pe_ix (r := rIx K) ix_seq (pv 5) pe_int (fun _ _ => rfl)) (pe_callN (ok3 T.toTx) (hr.mono (by decide)) (by rfl) T.f3.g T.f3.F.kp T.f3.k pass0 (pa_cons (pv 1) pa_nil) (pk_cons (pv 2) pk_nil)) (nomark _)) (pe_and (pe_cmpR (r := rEqD K) (op_eqD hr.units) (pe_ix (r := rIx K) ix_seq (pv 7) pe_int (fun _ _ => rfl)) (pv 1) (nomark _)) (pe_one (pe_cmpR op_ge (pe_ix (r := rIx K) ix_seq (pv 7) pe_int (fun _ _ => rfl)) (pe_ix (r := rIx K) ix_seq (pv 5) pe_int (fun _ _ => rfl)) (nomark _)))))))))))))), fun g ws μ k eg h => ?_⟩)
  refine pu_go eg h fun r hd eg => ?_
  obtain ⟨S, U, k, cs, rfl, pS, pU, hk2, hk3, hcs, hcl, rfl⟩ := hd
  walk_at "cx"
  refine Go.slots (δ' := [.da (tS S), .da (tS U), dI (k : Nat), dL (cs.map certD), .no, .no, .no, .no, .no]) rfl ?_
  have comp : ∀ (g : Gr) (δ : List Sl) (k' : Sl → Mus → Prop), g.ms = [] → (wipeS δ [8])[0]? = some (.da (tS S)) → (wipeS δ [8])[1]? = some (.da (tS U)) → (wipeS δ [8])[2]? = some (dI (k : Nat)) → 8 < δ.length →
      δ[3]? = some (dL (cs.map certD)) → k' (dL ((cs.filter fun c => checkL ltS S U k c).map certD)) [] →
      Ev K g δ [] (tLc (iList K (tVar 3)) (gName 8) (tB (tCall (spG K (pu D66)) [] E0 (tCons (tVar 0) (tCons (tVar 1) (tCons (tVar 8) (tCons (tVar 2) tNil)))))) (tVar 8) [8]) k' := by
    intro g δ k' eg d0 d1 d2 d8 d3 hk
    have s0 : ∀ d : Sl, ((wipeS δ [8]).set 8 d)[0]? = some (.da (tS S)) := fun d => by rw [List.getElem?_set_ne (by decide)]; exact d0
    have s1 : ∀ d : Sl, ((wipeS δ [8]).set 8 d)[1]? = some (.da (tS U)) := fun d => by rw [List.getElem?_set_ne (by decide)]; exact d1
    have s2 : ∀ d : Sl, ((wipeS δ [8]).set 8 d)[2]? = some (dI (k : Nat)) := fun d => by rw [List.getElem?_set_ne (by decide)]; exact d2
    have s8 : ∀ d : Sl, ((wipeS δ [8]).set 8 d)[8]? = some d := fun d => by rw [List.getElem?_set_self (by rw [wipeS_len]; exact d8)]
    refine ev_frz (ev_lcL (by simp) (ev_da d3 ⟨_, rfl, fun i acc μ' => μ' = [] ∧ acc = (((cs.take i).filter fun c => checkL ltS S U k c).map certD).map Sl.da, by rw [List.length_map]; omega, ⟨rfl, rfl⟩, ?_, ?_⟩))
    · rintro i _ _ hi ⟨rfl, rfl⟩ d hd
      rw [List.length_map] at hi
      rw [List.getElem?_map, List.getElem?_eq_getElem hi] at hd
      cases hd
      have hc : Cok cs[i] := hcs _ (List.getElem_mem _)
      have et : cs.take (i + 1) = cs.take i ++ [cs[i]] := by rw [List.take_add_one, List.getElem?_eq_getElem hi]; rfl
      intro Dl
      refine eb_B (ev_callP (ea_cons (ev_da (s0 _) (ea_cons (ev_da (s1 _) (ea_cons (ev_da (s8 _) (ea_cons (ev_da (s2 _) (ea_nil ?_)))))))))) 
      refine ⟨_, ⟨S, U, cs[i], k, rfl, pS, pU, hc, rfl⟩, _, rfl, [], rfl, fun h1 => ?_, fun h1 => ?_⟩
      · refine ev_da (s8 _) ⟨[], rfl, rfl, ?_⟩
        rw [et, List.filter_append, List.map_append, List.map_append, List.filter_cons, if_pos h1]
        rfl
      · refine ⟨rfl, ?_⟩
        rw [et, List.filter_append, List.filter_cons, if_neg (by rw [h1]; decide)]
        simp
    · rintro _ _ ⟨rfl, rfl⟩ p
      rw [List.length_map, List.take_length]
      exact ⟨p, (cs.filter fun c => checkL ltS S U k c).map certD, [], rfl, rfl, by rw [eg]; simp, hk⟩
  have ifi : iD (floorsL ltS S U k) = inD ((floorsL ltS S U k).map fun (i : Nat) => (i : Int)) := by
    unfold iD inD
    rw [List.map_map]; rfl
  cases hb : barr S U k with
  | none =>
    have hr : Reach ltS S U k := barrier_none.mp hb
    have hne := (floorsL_ne ltS_ord).mpr hr
    have hhd := floorsL_head ltS_ord hr
    have hrg := floorsL_range ltS_ord S U k
    have hacc : (cs.filter fun c => checkL ltS S U k c) = [] := List.filter_eq_nil_iff.mpr fun c _ h => check_sound ltS_ord h hr
    walk_at "go"
    refine ⟨rfl, rfl, dT [.str "reached", .int (depth ltS U k)], ⟨S, U, k, rfl, pS, pU, by rw [toldD_none hb]⟩, ?_⟩
    walk_at "go"
    refine ⟨rfl, rfl, _, ⟨S, U, k, rfl, pS, pU, rfl⟩, ?_⟩
    rw [ifi]
    generalize hfl : floorsL ltS S U k = fl at hne hhd hrg
    have hfil : (fl.map fun (i : Nat) => (i : Int))[0]? = some ((depth ltS U k : Nat) : Int) := by rw [List.getElem?_map, hhd]; rfl
    have hfie : (fl.map fun (i : Nat) => (i : Int)) = (List.range fl.length).map fun (n : Nat) => ((depth ltS U k : Nat) : Int) + (n : Nat) := by
      rw [hrg, List.range'_eq_map_range, List.map_map, List.length_map, List.length_range]
      rfl
    have hfi0 : (fl.map fun (i : Nat) => (i : Int)) ≠ [] := by simpa using hne
    have hfll : fl.length ≤ 1000 := by
      rw [← hfl]
      unfold floorsL
      have h1 := List.length_filter_le (fun f => isFloor ltS S U f k) (List.range (min S.length U.length + 1))
      rw [List.length_range] at h1
      have := pS.len
      omega
    have hdl : depth ltS U k ≤ 1000 := by
      have h1 := depth_le (lt := ltS) U k
      have := pU.len
      omega
    have hlen2 : (fl.map fun (i : Nat) => (i : Int)).length = fl.length := List.length_map _
    generalize (fl.map fun (i : Nat) => (i : Int)) = fi at hfil hfie hfi0 hlen2
    have ix0 : ∀ {K : PySem.W.Frag} {g : Gr} {δ : List Sl} {μ : Mus} {k' : Sl → Mus → Prop}, k' (dI (depth ltS U k : Nat)) μ → Op2 K g δ (rIx K) (.da (inD fi)) (dI 0) μ k' := fun q => o_ixL (d := .int (depth ltS U k : Nat)) (atI_ofNat (n := 0) rfl (by rw [List.getElem?_map, hfil]; rfl)) q
    walk_at "go"
    refine ⟨rfl, rfl, dB true, ⟨S, U, k, rfl, pS, pU, by rw [hb]; rfl⟩, ?_⟩
    walk_at "go"
    refine o_neB ?_
    walk_at "go"
    refine ⟨fun _ => ?_, fun h => absurd h (by decide +kernel)⟩
    walk_at "go"
    refine ev_lst' ?_
    walk_at "go"
    refine o_neDL (ds := []) ?_
    walk_at "go"
    refine o_neB ?_
    rw [decide_eq_false hfi0]
    walk_at "go"
    refine ⟨fun h => absurd h (by decide +kernel), fun _ => ?_⟩
    refine go_next (go_seq (go_set (comp g _ _ eg rfl rfl rfl (by show 8 < 9; decide) rfl ?_)))
    rw [hacc]
    walk_at "go"
    refine .pq ⟨fun o => ∃ m : Int, (depth ltS U k : Int) ≤ m ∧ o = dT [.str "built", tS U, .int m], ⟨S, U, k, rfl, pS, pU, hk2, hk3, fun w hw => (by rw [hb] at hw; cases hw), fun _ m hm => ⟨m, hm, rfl⟩⟩, ?_⟩
    rintro _ ⟨m, hm, rfl⟩
    walk_at "go"
    refine ⟨fun h => absurd h (by decide +kernel), fun _ => ?_⟩
    walk_at "go"
    refine ev_lst' ?_
    walk_at "go"
    refine o_neDL (cs := []) (ds := []) ?_
    walk_at "go"
    refine ⟨fun _ => ?_, fun h => absurd h (by decide +kernel)⟩
    walk_at "go"
    refine ev_listRg ?_
    walk_at "go"
    refine ix0 ?_
    walk_at "go"
    refine ix0 ?_
    walk_at "go"
    refine ⟨_, _, rfl, rfl, RgOk.of_le (by omega) (by rw [List.length_map]; omega) (by omega) (by omega), ?_⟩
    rw [show (((depth ltS U k : Nat) : Int) + ((fi.map PyData.int).length : Nat) - ((depth ltS U k : Nat) : Int)).toNat = fl.length by rw [List.length_map]; omega, ← hfie]
    refine o_neDL ?_
    rw [decide_eq_true (rfl : fi = fi)]
    walk_at "go"
    refine ⟨fun _ => ?_, fun h => absurd h (by decide +kernel)⟩
    walk_at "go"
    refine ix0 ?_
    walk_at "go"
    refine o_neDI ?_
    rw [decide_eq_true (rfl : ((depth ltS U k : Nat) : Int) = _)]
    walk_at "go"
    refine ⟨fun h => absurd h (by decide +kernel), fun _ => ?_⟩
    walk_at "go"
    refine ix0 ?_
    walk_at "go"
    refine ⟨rfl, rfl, _, ⟨U, k, rfl, by have := pU.len; omega, rfl⟩, ?_⟩
    walk_at "go"
    refine ⟨fun _ => ?_, fun h => absurd rfl (of_decide_eq_false h)⟩
    walk_at "go"
    refine o_eqP pU pU ?_
    rw [decide_eq_true (rfl : U = U)]
    walk_at "go"
    refine ⟨fun _ => ?_, fun h => absurd h (by decide +kernel)⟩
    walk_at "go"
    refine o_ixT (d := .int m) (atI_ofNat (n := 2) rfl rfl) ?_
    walk_at "go"
    refine ix0 ?_
    walk_at "go"
    show dB _ = dB true
    rw [decide_eq_true hm]
  | some y =>
    have hr : ¬ Reach ltS S U k := fun h => by
      have := barrier_none.mpr h
      rw [show barrier S U (depth ltS U k) (vals ltS U k) k = barr S U k from rfl, hb] at this
      cases this
    have hnil : floorsL ltS S U k = [] := by
      by_cases q : floorsL ltS S U k = []
      · exact q
      · exact absurd ((floorsL_ne ltS_ord).mp q) hr
    have hown : checkL ltS S U k (certOf ltS U k y) = true := check_own ltS_ord hb
    walk_at "go"
    refine ⟨rfl, rfl, dT [.str "blocked", certP S U k y], ⟨S, U, k, rfl, pS, pU, by rw [toldD_some hb]⟩, ?_⟩
    walk_at "go"
    refine ⟨rfl, rfl, _, ⟨S, U, k, rfl, pS, pU, rfl⟩, ?_⟩
    rw [hnil]
    walk_at "go"
    refine ⟨rfl, rfl, dB false, ⟨S, U, k, rfl, pS, pU, by rw [hb]; rfl⟩, ?_⟩
    walk_at "go"
    refine o_neB ?_
    walk_at "go"
    refine ⟨fun _ => ?_, fun h => absurd h (by decide +kernel)⟩
    walk_at "go"
    refine ev_lst' ?_
    walk_at "go"
    refine o_neDL (cs := []) (ds := []) ?_
    walk_at "go"
    refine o_neB ?_
    walk_at "go"
    refine ⟨fun h => absurd h (by decide +kernel), fun _ => ?_⟩
    refine go_next (go_seq (go_set (comp g _ _ eg rfl rfl rfl (by show 8 < 9; decide) rfl ?_)))
    walk_at "go"
    refine .pq ⟨fun o => o = dT [.str "blocked", certP S U k y], ⟨S, U, k, rfl, pS, pU, hk2, hk3, fun w hw => (by rw [hb] at hw; cases hw; rfl), fun h m hm => (by rw [hb] at h; cases h)⟩, ?_⟩
    rintro _ rfl
    walk_at "go"
    refine ⟨fun _ => ?_, fun h => absurd h (by decide +kernel)⟩
    walk_at "go"
    refine o_eqSame (cert_pl pU hb) (cert_dep S U k y) ?_
    walk_at "go"
    refine ⟨fun _ => ?_, fun h => absurd h (by decide +kernel)⟩
    walk_at "go"
    refine ⟨_, ⟨S, U, certOf ltS U k y, k, rfl, pS, pU, cert_ok pU hb, rfl⟩, ?_⟩
    rw [hown]
end
end De
end
section
set_option Elab.async false
set_option linter.all false
set_option maxRecDepth 100000
set_option maxHeartbeats 4000000
/-! the law itself -/
namespace De
open PySem L2 PySem.Spec PyProof.Rows RZ
section
variable {K : PySem.W.Frag} {g : Gr} {δ : List Sl} {μ : Mus} {k : Sl → Mus → Prop} {te ta tb : TE} {F : AE} {t : TS}
theorem go_unpackL {n : Nat} {is : List Nat} (hn : is.length = n) (h : Ev K g δ μ te fun w μ1 => ∃ ds, w = dL ds ∧ ds.length = n ∧ F.nx (setAll δ is (ds.map Sl.da)) μ1) : Go K g δ μ (tAsg te (gLst K n (gNames is))) F := fun σ H B c D f =>
  h σ H B c _ fun w μ1 v H1 B1 h1 c1 s1 r1 => by
    obtain ⟨ds, e, hl, hk⟩ := h1
    subst e
    obtain ⟨p, xs, rfl, h2, h3⟩ := dp_lst r1
    exact ⟨p, xs, rfl, same_l c1.bh h2, by rw [DpAll.len h3, hl], names_run c1 (rlAll_da.mpr h3) (by rw [List.length_map, hl, hn]) fun σ' c2 => f.nx _ _ _ _ _ hk c2 s1⟩
/-- a list of one's own is not changed any more -/
theorem go_freeze {i : Nat} {p : Addr} {ds : List PyData} (hi : δ[i]? = some (.va (.ref p))) (hm : ∀ x, x ∈ g.ms → x ∈ μ.map (·.1)) (h : Go K g (δ.set i (dL ds)) μ t F) : Go K g δ (μ ++ [(p, .lis (ds.map Sl.da))]) t F := fun σ H B c D f => by
  obtain ⟨B', c', s', r⟩ := c.freeze hm
  refine h σ H B' ⟨c'.b0, c'.bh, c'.bf, c'.kp, c'.th, by rw [List.length_set]; exact c'.ln, fun j w e => ?_, c'.mu, c'.nd⟩ D (f.mono s')
  by_cases z : i = j
  · subst z
    have hlt := (List.getElem?_eq_some_iff.mp hi).1
    rw [List.getElem?_set_self hlt] at e
    cases e
    exact ⟨.ref p, c'.sl i _ hi, r⟩
  · rw [List.getElem?_set_ne z] at e
    exact c'.sl j w e
end
local macro_rules | `(tactic| walk_at "de") => `(tactic| first
  | with_reducible refine go_seq ?_
  | with_reducible refine go_set ?_
  | with_reducible refine go_asg ?_
  | with_reducible refine go_ret ?_
  | with_reducible refine go_if ?_
  | with_reducible refine go_next ?_
  | with_reducible refine go_drop ?_
  | ((with_reducible apply ev_da); exact rfl)
  | ((with_reducible apply ev_va); exact rfl)
  | with_reducible refine ev_c ?_
  | with_reducible refine ev_op ?_
  | with_reducible refine ev_un ?_
  | with_reducible refine ea_nil ?_
  | with_reducible refine ea_cons ?_
  | with_reducible refine ev_sortset ?_
  | ((with_reducible apply ev_cells); (focus assumption); (focus assumption))
  | ((with_reducible apply ev_reach); (focus assumption); (focus assumption))
  | ((with_reducible apply ev_made); (focus assumption); (focus assumption))
  | with_reducible refine ev_height ?_
  | ((with_reducible apply ev_methS); (focus (decide +kernel)); (focus (decide +kernel)); (focus (decide +kernel)))
  | with_reducible refine ev_callS ?_
  | with_reducible refine ev_count ?_
  | with_reducible refine ev_tcount ?_
  | with_reducible refine oc_len_c ?_
  | with_reducible refine ev_cb ?_
  | with_reducible refine eb_test ?_
  | with_reducible refine eb_B ?_
  | with_reducible refine eb_and ?_
  | with_reducible refine eb_or ?_
  | with_reducible refine eb_not ?_
  | with_reducible refine ev_andV ?_
  | with_reducible refine ev_orV ?_
  | with_reducible refine ev_notV ?_
  | with_reducible refine ev_if ?_
  | with_reducible refine ev_sl ?_
  | with_reducible refine eo_no ?_
  | with_reducible refine eo_some ?_
  | with_reducible refine ev_tup' ?_
  | with_reducible refine o_pen0 ?_
  | with_reducible refine o_pen1 ?_
  | with_reducible refine o_pen2 ?_
  | with_reducible refine ev_draw ?_
  | with_reducible refine ev_callX ?_
  | with_reducible refine ev_callP ?_
  | with_reducible refine ev_callNP ?_
  | with_reducible refine ev_call ?_
  | with_reducible refine ev_callN ?_
  | with_reducible refine ev_chain ?_
  | with_reducible refine o_I0 ?_
  | with_reducible refine o_eqI ?_
  | with_reducible refine o_neI ?_
  | with_reducible refine o_eqS ?_
  | with_reducible refine o_neS ?_
  | with_reducible refine o_isN ?_
  | with_reducible refine o_notN ?_
  | with_reducible refine o_ltS ?_
  | with_reducible refine o_U ?_
  | with_reducible refine oc_len_tS ?_
  | with_reducible refine oc_len_lS ?_
  | with_reducible refine oc_len_t ?_
  | with_reducible refine oc_len_l ?_
  | with_reducible refine o_ix0 ?_
  | with_reducible refine o_ix1 ?_
  | with_reducible refine ev_dnew ?_
  | with_reducible refine oc_isiT ?_
  | with_reducible refine oc_isiTL ?_
  | with_reducible refine oc_isiI ?_
  | with_reducible refine oc_isiIB ?_
  | with_reducible refine oc_isiS ?_
  | with_reducible refine oc_min2 ?_
  | with_reducible refine oc_max2 ?_
  | with_reducible refine oc_abs ?_
  | with_reducible refine oc_intB ?_
  | with_reducible refine oc_tup_lS ?_
  | with_reducible refine oc_tup_l ?_
  | with_reducible refine o_inF ?_
  | with_reducible refine o_inT ?_
  | with_reducible refine o_inLF ?_
  | with_reducible refine o_inLT ?_
  | with_reducible refine eb_yes ?_
  | (refine Exists.intro _ (Exists.intro _ (Exists.intro _ (Exists.intro _ (Exists.intro _ (Exists.intro _ (Exists.intro _ (Exists.intro _ (And.intro rfl (And.intro rfl ?_))))))))))
  | (refine Exists.intro _ (And.intro (show dats _ = some _ from rfl) (And.intro (show Nat.ble _ 60 = true from rfl) ?_)))
  | with_reducible refine Exists.intro _ (And.intro rfl ?_))
local macro_rules | `(tactic| walk_at "cx") => `(tactic| try simp only [cx_K, cx_K'])
local macro_rules | `(tactic| walk_at "go") => `(tactic| repeat walk_at "de")

section
variable {P : Program} {w : World} {K : PySem.W.Frag} {mg : Str → Option Value} {base : Heap}
theorem sc70 : FnScope ["_law_script", "_law_pen_here", "_law_turn", "_law_row", "_law_made", "_law_one", "_law_pool_here", "_law_pile_here", "_law_bound", "_law_goal_here", "_law_many", "_law_offered_here", "_law_told"] ["_law_script"] (defScope (topS 70)) := ⟨rfl, rfl, rfl, by decide +kernel, rfl, by decide +kernel, by decide +kernel⟩
def D70 (ws : List Sl) (r : Sl) : Prop := ∃ cs : List Int, ws = [dL (cs.map PyData.int)] ∧ cs.length ≤ 63 ∧ r = dB true
def I70a (a : Addr) (b : Nat) (δ' : List Sl) (μ' : Mus) : Prop := ∃ (m : Mu) (s x1 x2 x3 x4 x5 x6 x7 x8 x9 x10 x11 : Sl), δ' = [s, .va (.ref a), x1, x2, x3, x4, x5, x6, x7, x8, x9, x10, x11] ∧ μ' = [(a, m)] ∧ Pw m b
def rowD (xs : List (List Str)) : PyData := .list (xs.map tS)
theorem row_at {xs : List (List Str)} {i : Nat} {d : PyData} (h : (xs.map tS)[i]? = some d) : ∃ y, y ∈ xs ∧ d = tS y := by
  rw [List.getElem?_map] at h
  cases e : xs[i]? with
  | none => rw [e] at h; cases h
  | some y => rw [e] at h; cases h; exact ⟨y, List.mem_of_getElem? e, rfl⟩
theorem ok70 (T : Ty K mg) : FnOk P w K mg base CX0 12 T.f70.a T.f70.d ["_law_script"] (spG K (pu D70)) := by
  refine fn_go T.f70.F sc70 (fun ws μ k h => by obtain ⟨_, _, ⟨_, rfl, _⟩, _⟩ := h; rfl) (fun cdv A outer s H E hr => ⟨_, (pss_cons (ps_set (i := 1) sc70.nd rfl (.inl rfl) (pe_call (ok58 T.toTx) (hr.mono (by decide)) (by rfl) T.f58.g T.f58.F.kp T.f58.b .nil pass0 (pa_cons (pv 0) pa_nil)))
      (pss_cons (ps_for PassesOwn.never rfl (pi_range1 rfl T.z_range (pa_cons pe_int pa_nil)) (pg_name (i := 2) sc70.nd rfl (.inl rfl)) (pss_cons (ps_asg (pe_call (ok65 T.toTx) (hr.mono (by decide)) (by rfl) T.f65.g T.f65.F.kp T.f65.b .nil pass0 (pa_cons (pv 1) pa_nil)) (pg_lst (n := 4) rfl (pgs_cons (pg_name (i := 6) sc70.nd rfl (.inl rfl)) (pgs_cons (pg_name (i := 7) sc70.nd rfl (.inl rfl)) (pgs_cons (pg_name (i := 8) sc70.nd rfl (.inl rfl)) (pgs_cons (pg_name (i := 9) sc70.nd rfl (.inl rfl)) pgs_nil))))))
      (pss_cons (ps_par (i := 7) (j := 9) (by rfl) sc70.nd rfl rfl (by decide) rfl rfl (pa_cons (pe_slice (r := rSlF K) sl_tupF (pv 7) po_none (po_some pe_int)) (pa_cons (pe_slice (r := rSlF K) sl_tupF (pv 9) po_none (po_some pe_int)) pa_nil)) (by rfl))
      (pss_cons (ps_set (i := 3) sc70.nd rfl (.inl rfl) (pe_lst (pa_cons (pv 7) (pa_cons (pv 9) (pa_cons (pe_slice (r := rSlF K) sl_tupF (pe_call (ok64 T.toTx) (hr.mono (by decide)) (by rfl) T.f64.g T.f64.F.kp T.f64.b .nil pass0 (pa_cons (pv 1) (pa_cons (pv 6) (pa_cons (pv 7) (pa_cons (pv 8) pa_nil))))) po_none (po_some pe_int)) (pa_cons (pe_slice (r := rSlF K) sl_tupF (pe_call (ok64 T.toTx) (hr.mono (by decide)) (by rfl) T.f64.g T.f64.F.kp T.f64.b .nil pass0 (pa_cons (pv 1) (pa_cons (pv 6) (pa_cons (pv 9) (pa_cons (pv 8) pa_nil))))) po_none (po_some pe_int)) pa_nil))))))
      (pss_cons (ps_set (i := 4) sc70.nd rfl (.inl rfl) (pe_lst pa_nil))
      (pss_cons (ps_for PassesOwn.never rfl (pi_list (pv 3)) (pg_name (i := 5) sc70.nd rfl (.inl rfl)) (pss_one (ps_for PassesOwn.never rfl (pi_tup (pe_tupF (pa_cons pe_int (pa_cons (pv 8) pa_nil)))) (pg_name (i := 10) sc70.nd rfl (.inl rfl)) (pss_cons (ps_set (i := 12) sc70.nd rfl (.inl rfl) (pe_callN (ok11 T.toTx) (hr.mono (by decide)) (by rfl) T.f11.g T.f11.F.kp T.f11.k pass0 (pa_cons (pv 7) (pa_cons (pv 5) pa_nil)) (pk_cons (pv 10) pk_nil)))
      (pss_one (ps_if (pt_cmpR op_eq (pe_ix (r := rIx K) ix_seq (pv 12) pe_int (fun _ _ => rfl)) pe_str (nomark _)) (pss_one (ps_expr (pe_bmK (K := K) rfl PySem.F.plainAttrs_list PySem.F.slot_list_append PySem.F.type_list_append mt_append (pv 4) (pa_cons (pe_ix (r := rIx K) ix_seq (pv 12) pe_int (fun _ _ => rfl)) pa_nil)))) pss_nil))))))
      (pss_one (ps_for PassesOwn.never rfl (pi_list (pv 3)) (pg_name (i := 5) sc70.nd rfl (.inl rfl)) (pss_cons (ps_set (i := 11) sc70.nd rfl (.inl rfl) (pe_call (ok68 T.toTx) (hr.mono (by decide)) (by rfl) T.f68.g T.f68.F.kp T.f68.b .nil pass0 (pa_cons (pv 1) (pa_cons (pv 4) (pa_cons (pe_callN (ok3 T.toTx) (hr.mono (by decide)) (by rfl) T.f3.g T.f3.F.kp T.f3.k pass0 (pa_cons (pv 5) pa_nil) (pk_cons (pv 8) pk_nil)) pa_nil)))))
      (pss_one (ps_if (PW.pt (pw_or (pt_not (pt_val (pe_call (ok69 T) (hr.mono (by decide)) (by rfl) T.f69.g T.f69.F.kp T.f69.b .nil pass0 (pa_cons (pv 7) (pa_cons (pv 5) (pa_cons (pv 8) (pa_cons (pv 11) pa_nil))))))) (pw_or1 (pt_not (pt_val (pe_call (ok69 T) (hr.mono (by decide)) (by rfl) T.f69.g T.f69.F.kp T.f69.b .nil pass0 (pa_cons (pv 5) (pa_cons (pv 7) (pa_cons (pv 8) (pa_cons (pv 11) pa_nil)))))))))) (pss_one (ps_ret pe_bl)) pss_nil)))))))))))
      (pss_one (ps_ret pe_bl)))), fun g ws μ k eg h => ?_⟩)
  refine pu_go eg h fun r hd eg => ?_
  obtain ⟨cs, rfl, hcl, rfl⟩ := hd
  walk_at "cx"
  refine Go.slots (δ' := [dL (cs.map PyData.int), .no, .no, .no, .no, .no, .no, .no, .no, .no, .no, .no, .no]) rfl ?_
  refine go_seq (go_set (ev_call ?_))
  walk_at "go"
  refine ⟨[], [], rfl, List.nodup_nil, fun w m => ∃ a mm, w = .va (.ref a) ∧ m = [(a, mm)] ∧ Pw mm 0, ⟨cs, rfl, rfl, hcl, fun a mm h => ⟨a, mm, rfl, rfl, h⟩⟩, ?_⟩
  rintro _ _ news _ ⟨a, m, rfl, rfl, hp⟩
  refine go_seq (go_forR1 ?_)
  walk_at "go"
  refine ⟨small_of (by decide) (by decide), fun i => I70a a (400 * i), ⟨m, _, _, _, _, _, _, _, _, _, _, _, _, rfl, rfl, hp⟩, ?_, ?_⟩
  rotate_left
  · rintro _ _ _
    walk_at "go"
    rfl
  rintro i _ _ hi ⟨m, s, x1, x2, x3, x4, x5, x6, x7, x8, x9, x10, x11, rfl, rfl, hp⟩
  have hi : i < 2 := hi
  refine go_seq (go_unpackL (is := [6, 7, 8, 9]) rfl (ev_pn ?_))
  walk_at "go"
  refine ⟨a, m, _, _, _, rfl, rfl, hp, by omega, fun o => ∃ (ss xs ys : List Str) (bd : Nat), o = dL [lS ss, tS xs, .int (bd : Nat), tS ys] ∧ Scn ss xs ys bd, ⟨rfl, fun ss xs ys bd h => ⟨ss, xs, ys, bd, rfl, h⟩⟩, ?_⟩
  rintro _ m1 ⟨ss, xs, ys, bd, rfl, sc⟩ hp1
  refine ⟨_, rfl, rfl, ?_⟩
  refine go_seq (go_par ?_)
  walk_at "go"
  refine os_to (n := 14) rfl ?_
  walk_at "go"
  refine os_to (n := 18) rfl ?_
  walk_at "go"
  refine ⟨_, _, rfl, ?_⟩
  have hss : ∀ y, y ∈ ss → okS y = true := sc.ok
  have sc0 := sc.s0
  have sc1 := sc.s1
  have scb0 := sc.b0
  have scb1 := sc.b1
  obtain ⟨xs', hxs'⟩ : ∃ xs', xs' = xs.take 14 := ⟨_, rfl⟩
  obtain ⟨ys', hys'⟩ : ∃ ys', ys' = ys.take 18 := ⟨_, rfl⟩
  have lx : xs'.length ≤ 14 := by rw [hxs', List.length_take]; omega
  have ly : ys'.length ≤ 18 := by rw [hys', List.length_take]; omega
  have mx : ∀ y, y ∈ xs' → y ∈ ss := fun y h => sc.xm y (List.mem_of_mem_take (hxs' ▸ h))
  have my : ∀ y, y ∈ ys' → y ∈ ss := fun y h => sc.ym y (List.mem_of_mem_take (hys' ▸ h))
  have mkP : ∀ zs : List Str, zs.length ≤ 18 → (∀ y, y ∈ zs → y ∈ ss) → Pil zs := fun zs h1 h2 => ⟨fun s h => hss s (h2 s h), by omega⟩
  rw [← hxs', ← hys']
  have pX := mkP xs' (by omega) mx
  have pY := mkP ys' ly my
  refine go_seq (go_set (ev_lst' ?_))
  walk_at "go"
  refine .pn ?_
  refine ⟨a, m1, _, _, _, rfl, rfl, hp1, by omega, fun w => ∃ us : List Str, w = .da (tS us) ∧ us.length ≤ 40 ∧ ∀ y, y ∈ us → y ∈ ss ∨ y ∈ xs', ⟨ss, xs', bd, rfl, sc0, by omega, by omega, by omega, by omega, fun us e1 e2 => ⟨us, rfl, e1, e2⟩⟩, ?_⟩
  rintro _ m2 ⟨us, rfl, lu, mu⟩ hp2
  walk_at "go"
  refine os_to (n := 18) rfl ?_
  walk_at "go"
  refine .pn ?_
  refine ⟨a, m2, _, _, _, rfl, rfl, hp2, by omega, fun w => ∃ vs : List Str, w = .da (tS vs) ∧ vs.length ≤ 40 ∧ ∀ y, y ∈ vs → y ∈ ss ∨ y ∈ ys', ⟨ss, ys', bd, rfl, sc0, by omega, by omega, by omega, by omega, fun vs e1 e2 => ⟨vs, rfl, e1, e2⟩⟩, ?_⟩
  rintro _ m3 ⟨vs, rfl, lv, mv⟩ hp3
  walk_at "go"
  refine os_to (n := 18) rfl ?_
  walk_at "go"
  have pU := mkP (us.take 18) (by rw [List.length_take]; omega) fun y h => (mu y (List.mem_of_mem_take h)).elim id (mx y)
  have pV := mkP (vs.take 18) (by rw [List.length_take]; omega) fun y h => (mv y (List.mem_of_mem_take h)).elim id (my y)
  obtain ⟨row, hrow⟩ : ∃ row : List (List Str), row = [xs', ys', us.take 18, vs.take 18] := ⟨_, rfl⟩
  have erow : dL [tS xs', tS ys', tS (us.take 18), tS (vs.take 18)] = .da (rowD row) := by rw [hrow]; rfl
  have prow : ∀ z, z ∈ row → Pil z := fun z hz => by
    rw [hrow] at hz
    simp only [List.mem_cons, List.not_mem_nil, or_false] at hz
    rcases hz with rfl | rfl | rfl | rfl
    · exact pX
    · exact pY
    · exact pU
    · exact pV
  have hrl : row.length = 4 := by rw [hrow]; rfl
  rw [erow]
  refine ev_lstM (ea_nil ⟨by decide, fun md => ?_⟩)
  refine go_mid (fun δ' μ' => ∃ (cs : List (Cert Str)) (y1 y2 y3 : Sl), δ' = [s, .va (.ref a), dI (i : Nat), .da (rowD row), .va (.ref md), y1, .da (lS ss), .da (tS xs'), dI (bd : Nat), .da (tS ys'), y2, x10, y3] ∧ μ' = [(a, m3)] ++ [(md, .lis ((cs.map certD).map Sl.da))] ∧ cs.length ≤ 8 ∧ ∀ c, c ∈ cs → Cok c) ?_ ?_
  · refine go_forL (ev_da rfl ⟨row.map tS, rfl, fun j δ' μ' => ∃ (cs : List (Cert Str)) (y1 y2 y3 : Sl), δ' = [s, .va (.ref a), dI (i : Nat), .da (rowD row), .va (.ref md), y1, .da (lS ss), .da (tS xs'), dI (bd : Nat), .da (tS ys'), y2, x10, y3] ∧ μ' = [(a, m3)] ++ [(md, .lis ((cs.map certD).map Sl.da))] ∧ cs.length ≤ 2 * j ∧ ∀ c, c ∈ cs → Cok c, ⟨[], _, _, _, rfl, rfl, by decide, fun _ h => (by cases h)⟩, ?_, ?_⟩)
    · rintro j _ _ hj ⟨cs, y1, y2, y3, rfl, rfl, hcl2, hcok⟩ d hd
      obtain ⟨z, hz, rfl⟩ := row_at hd
      have pz := prow z hz
      refine go_forT ?_
      walk_at "go"
      refine ⟨fun n δ' μ' => ∃ (cs : List (Cert Str)) (y2 y3 : Sl), δ' = [s, .va (.ref a), dI (i : Nat), .da (rowD row), .va (.ref md), .da (tS z), .da (lS ss), .da (tS xs'), dI (bd : Nat), .da (tS ys'), y2, x10, y3] ∧ μ' = [(a, m3)] ++ [(md, .lis ((cs.map certD).map Sl.da))] ∧ cs.length ≤ 2 * j + n ∧ ∀ c, c ∈ cs → Cok c, ⟨cs, _, _, rfl, rfl, hcl2, hcok⟩, ?_, ?_⟩
      · rintro n _ _ hn ⟨cs, y2, y3, rfl, rfl, hcl3, hcok⟩ d hd
        have hj : j < 4 := by rw [List.length_map, hrl] at hj; exact hj
        have hn : n < 2 := hn
        obtain ⟨q, rfl, hq1, hq2⟩ : ∃ q : Nat, d = .int (q : Nat) ∧ 2 ≤ q ∧ q ≤ 60 := by
          match n, hn with
          | 0, _ => cases hd; exact ⟨2, rfl, by decide, by decide⟩
          | 1, _ => cases hd; exact ⟨bd, rfl, scb0, by omega⟩
        have hlen : ((cs.map certD).map Sl.da).length < 100000 := by rw [List.length_map, List.length_map]; omega
        cases hb : barr xs' z q with
        | none =>
          walk_at "go"
          refine ⟨rfl, rfl, dT [.str "reached", .int (depth ltS z q)], ⟨xs', z, q, rfl, pX, pz, by rw [toldD_none hb]⟩, ?_⟩
          walk_at "go"
          refine ⟨fun h => absurd h (by decide +kernel), fun _ => ?_⟩
          walk_at "go"
          exact ⟨cs, _, _, rfl, rfl, by omega, hcok⟩
        | some y =>
          walk_at "go"
          refine ⟨rfl, rfl, dT [.str "blocked", certP xs' z q y], ⟨xs', z, q, rfl, pX, pz, by rw [toldD_some hb]⟩, ?_⟩
          walk_at "go"
          refine ⟨fun _ => ?_, fun h => absurd h (by decide +kernel)⟩
          walk_at "go"
          refine ev_app ?_
          walk_at "go"
          refine ⟨md, 1, _, rfl, rfl, ?_⟩
          walk_at "go"
          refine ⟨_, _, rfl, rfl, hlen, ?_⟩
          refine ⟨cs ++ [certOf ltS z q y], _, _, rfl, ?_, by simp; omega, fun c h => ?_⟩
          · rw [List.map_append, List.map_append]; rfl
          · rcases List.mem_append.mp h with h | h
            · exact hcok c h
            · rw [List.mem_singleton.mp h]; exact cert_ok pz hb
      · rintro _ _ ⟨cs, y2, y3, rfl, rfl, hcl3, hcok⟩
        exact ⟨cs, _, _, _, rfl, rfl, hcl3, hcok⟩
    · rintro _ _ ⟨cs, y1, y2, y3, rfl, rfl, hcl2, hcok⟩
      rw [List.length_map, hrl] at hcl2
      exact ⟨cs, _, _, _, rfl, rfl, hcl2, hcok⟩
  rintro _ _ ⟨ds, y1, y2, y3, rfl, rfl, hdl, hdok⟩
  refine go_freeze (i := 4) rfl (by rw [eg]; simp) ?_
  refine go_forL (ev_da rfl ⟨row.map tS, rfl, fun j δ' μ' => ∃ (m' : Mu) (y1 y2 y3 y4 : Sl), δ' = [s, .va (.ref a), dI (i : Nat), .da (rowD row), dL (ds.map certD), y1, .da (lS ss), .da (tS xs'), dI (bd : Nat), .da (tS ys'), y2, y4, y3] ∧ μ' = [(a, m')] ∧ Pw m' (400 * i + 215 + 70 + 70 + 8 * j), ⟨m3, _, _, _, _, rfl, rfl, hp3⟩, ?_, ?_⟩)
  · rintro j _ _ hj ⟨m4, y1, y2, y3, y4, rfl, rfl, hp4⟩ d hd
    rw [List.length_map, hrl] at hj
    obtain ⟨z, hz, rfl⟩ := row_at hd
    have pz := prow z hz
    have pzl := pz.len
    walk_at "go"
    refine ⟨rfl, rfl, _, ⟨z, bd, rfl, by omega, rfl⟩, ?_⟩
    walk_at "go"
    refine .pn ?_
    refine ⟨a, m4, _, _, _, rfl, rfl, hp4, by omega, fun w => ∃ es : List (Cert Str), w = dL (es.map certD) ∧ es.length ≤ 24 ∧ ∀ c, c ∈ es → Cok c, ⟨ds, _, rfl, hdl, hdok, fun es e1 e2 => ⟨es, rfl, e1, e2⟩⟩, ?_⟩
    rintro _ m5 ⟨es, rfl, hel, heok⟩ hp5
    walk_at "go"
    refine ⟨_, ⟨xs', z, bd, es, rfl, pX, pz, scb0, by omega, heok, by omega, rfl⟩, ?_⟩
    walk_at "go"
    refine ⟨fun _ => ?_, fun h => (by cases h)⟩
    walk_at "go"
    refine ⟨_, ⟨z, xs', bd, es, rfl, pz, pX, scb0, by omega, heok, by omega, rfl⟩, ?_⟩
    walk_at "go"
    refine ⟨fun h => (by cases h), fun _ => ?_⟩
    walk_at "go"
    exact ⟨m5, _, _, _, _, rfl, rfl, hp5.mono (by omega)⟩
  · rintro _ _ ⟨m4, y1, y2, y3, y4, rfl, rfl, hp4⟩
    rw [List.length_map, hrl] at hp4
    exact ⟨m4, _, _, _, _, _, _, _, _, _, _, _, _, rfl, rfl, hp4.mono (by omega)⟩
end
end De
end
section
set_option Elab.async false
set_option linter.all false
set_option maxRecDepth 100000
set_option maxHeartbeats 4000000
/-! facts of the top, one by one -/
namespace De
open PySem L2 PySem.Spec PyProof.Rows
section
variable {K : PySem.W.Frag} {h : Heap} {mg : Str → Option Value} {x qual : Str} {st : Stmt} {ps : List Str} {f : Addr} {oc : Value} {od an : Option Addr} {osl : Array (Option Value)} {kV doc pm cdv ct : Value}
/-- a def called by place -/
def df_mk (X : K.In h) (G : h.Ns mainGlobals mg) (a : PySem.W.nsIn K mainGlobals x = some (some (.ref f))) (l : K.lookup f = some ⟨oc, od, .func (PySem.W.fnOf x qual (defArgs st) (defBody st) (defScope st) .none kV doc pm an cdv ct), osl⟩)
    (c : PySem.W.codeIn K cdv qual = true) (k : PySem.W.keepIn K (.ref f) = true)
    (b : ∀ (kV doc pm : Value) (an : Option Addr) (cdv ct : Value) (us : List Value), us.length = ps.length → bindArgs (PySem.W.fnOf x qual (defArgs st) (defBody st) (defScope st) .none kV doc pm an cdv ct) ⟨us, []⟩ = pure (ps.zip us)) : Df K mg x qual st ps :=
  ⟨f, _, fun_mk l c k, PySem.W.mg_of X G a, (fun_mk (st := st) l c k).binds b⟩
/-- .. with reach= -/
def dk_mk {n : Nat} (X : K.In h) (G : h.Ns mainGlobals mg) (a : PySem.W.nsIn K mainGlobals x = some (some (.ref f))) (l : K.lookup f = some ⟨oc, od, .func (PySem.W.fnOf x qual (defArgs st) (defBody st) (defScope st) .none kV doc pm an cdv ct), osl⟩)
    (c : PySem.W.codeIn K cdv qual = true) (k : PySem.W.keepIn K (.ref f) = true)
    (b : ∀ (kV doc pm : Value) (an : Option Addr) (cdv ct : Value) (us ws : List Value), us.length = n → ws.length = 1 → bindArgs (PySem.W.fnOf x qual (defArgs st) (defBody st) (defScope st) .none kV doc pm an cdv ct) ⟨us, (["reach"] : List Str).zip ws⟩ = pure (ps.zip (us ++ ws))) : Dk K mg x qual st ps n :=
  ⟨f, _, fun_mk l c k, PySem.W.mg_of X G a, kbn (fun_mk (st := st) l c k) b⟩
def dn_mk (X : K.In h) (G : h.Ns mainGlobals mg) (a : PySem.W.nsIn K mainGlobals x = some (some (.ref f))) (l : K.lookup f = some ⟨oc, od, .func (PySem.W.fnOf x qual (defArgs st) (defBody st) (defScope st) .none kV doc pm an cdv ct), osl⟩)
    (c : PySem.W.codeIn K cdv qual = true) (k : PySem.W.keepIn K (.ref f) = true) : Dn K mg x qual st := ⟨f, _, fun_mk l c k, PySem.W.mg_of X G a⟩
def dm_mk {C : Addr} (a : PySem.W.findIn K (.ref C) x = some (some (.ref f))) (i : PySem.W.isFn K (.ref f) = true) (l : K.lookup f = some ⟨oc, od, .func (PySem.W.fnOf x qual (defArgs st) (defBody st) (defScope st) .none kV doc pm an cdv ct), osl⟩)
    (c : PySem.W.codeIn K cdv qual = true) (k : PySem.W.keepIn K (.ref f) = true)
    (b : ∀ (kV doc pm : Value) (an : Option Addr) (cdv ct : Value) (us : List Value), us.length = ps.length → bindArgs (PySem.W.fnOf x qual (defArgs st) (defBody st) (defScope st) .none kV doc pm an cdv ct) ⟨us, []⟩ = pure (ps.zip us)) : Dm K C x qual st ps :=
  ⟨f, _, fun_mk l c k, (fun_mk (st := st) l c k).binds b, ⟨a, i, k⟩⟩
/-- the class with its property -/
def ts_mk {aS a0 aP a1 : Addr} {oc0 oc1 : Value} {od0 an0 od1 an1 : Option Addr} {sl0 sl1 : Array (Option Value)} {kV0 doc0 pm0 cd0 ct0 kV1 doc1 pm1 cd1 ct1 : Value} {rest : List Value} (X : K.In h) (G : h.Ns mainGlobals mg)
    (aC : PySem.W.nsIn K mainGlobals "Site" = some (some (.ref aS))) (pg : PySem.W.plainGet K aS Str.empty = true) (hd : PySem.W.hasDictIn K aS = true) (po : PySem.W.plainOver K aS = true) (sa : PySem.W.findIn K (.ref aS) "__setattr__" = some (some (.builtin "object.__setattr__")))
    (mk : PySem.W.makesIn K aS = true) (kC : PySem.W.keepIn K (.ref aS) = true)
    (i0 : PySem.W.findIn K (.ref aS) "__init__" = some (some (.ref a0))) (f0 : PySem.W.isFn K (.ref a0) = true)
    (l0 : K.lookup a0 = some ⟨oc0, od0, .func (PySem.W.fnOf "__init__" "Site.__init__" (defArgs (inClass (topS 37) 0)) (defBody (inClass (topS 37) 0)) (defScope (inClass (topS 37) 0)) .none kV0 doc0 pm0 an0 cd0 ct0), sl0⟩) (c0 : PySem.W.codeIn K cd0 "Site.__init__" = true) (k0 : PySem.W.keepIn K (.ref a0) = true)
    (pa : PySem.W.findIn K (.ref aS) "height" = some (some (.ref aP))) (pge : PySem.W.specialIn K (.ref aP) "__get__" = some (some (.builtin "property.__get__"))) (pt : PySem.W.takesIn K (.ref aP) = some true) (pr : PySem.W.recIn K aP "property" = some (.ref a1 :: rest))
    (l1 : K.lookup a1 = some ⟨oc1, od1, .func (PySem.W.fnOf "height" "Site.height" (defArgs (inClass (topS 37) 1)) (defBody (inClass (topS 37) 1)) (defScope (inClass (topS 37) 1)) .none kV1 doc1 pm1 an1 cd1 ct1), sl1⟩) (c1 : PySem.W.codeIn K cd1 "Site.height" = true) (k1 : PySem.W.keepIn K (.ref a1) = true)
    (n1 : PySem.W.findIn K (.ref aS) "cells" = some none) (n2 : PySem.W.findIn K (.ref aS) "reach" = some none) (n3 : PySem.W.findIn K (.ref aS) "made" = some none)
    (m2 : Dm K aS "pop" "Site.pop" (inClass (topS 37) 2) ["self"]) (m3 : Dm K aS "copy" "Site.copy" (inClass (topS 37) 3) ["self", "index"]) (m4 : Dm K aS "exchange" "Site.exchange" (inClass (topS 37) 4) ["self", "index"])
    (m5 : Dm K aS "remove" "Site.remove" (inClass (topS 37) 5) ["self", "index"]) (m6 : Dm K aS "replace" "Site.replace" (inClass (topS 37) 6) ["self", "index", "source"]) (m7 : Dm K aS "move" "Site.move" (inClass (topS 37) 7) ["self", "source", "index"])
    (m8 : Dm K aS "lowest_in_reach" "Site.lowest_in_reach" (inClass (topS 37) 8) ["self"]) : Ts K mg :=
  { aS := aS, clS := ⟨pg, hd, po, sa⟩, gS := PySem.W.mg_of X G aC, a0 := a0, d0 := _, F0 := fun_mk l0 c0 k0, b0 := (fun_mk (st := inClass (topS 37) 0) l0 c0 k0).binds fun _ _ _ _ _ _ us hl => match us, hl with | [_, _, _], _ => rfl,
    mkS := ⟨mk, i0, f0, kC⟩, aP := aP, a1 := a1, d1 := _, F1 := fun_mk l1 c1 k1, b1 := (fun_mk (st := inClass (topS 37) 1) l1 c1 k1).binds fun _ _ _ _ _ _ us hl => match us, hl with | [_], _ => rfl,
    ph := ⟨pa, pge, pt, _, pr⟩, na_cells := n1, na_reach := n2, na_made := n3, f37_2 := m2, f37_3 := m3, f37_4 := m4, f37_5 := m5, f37_6 := m6, f37_7 := m7, f37_8 := m8 }
theorem exm_own {S : Addr} (h1 : PySem.W.subIn K (.ref S) (.type "BaseException") = some true) (h2 : PySem.W.isClsIn K S = true) (h3 : PySem.W.typeIn K (.ref S) = some (.type "type")) (h4 : PySem.W.subIn K (.ref S) (.ref S) = some true) : PySem.W.exmOne K (.ref S) (.ref S) = some true := by
  have e2 : ((PySem.W.clsIn K S).isSome && PySem.W.typeIn K (.ref S) == some (.type "type")) = true := by
    rw [show (PySem.W.clsIn K S).isSome = true from h2, h3]; rfl
  show (if (PySem.W.subIn K (.ref S) (.type "BaseException") == some true) = true then (if ((PySem.W.clsIn K S).isSome && PySem.W.typeIn K (.ref S) == some (.type "type")) = true then PySem.W.subIn K (.ref S) (.ref S) else none) else none) = some true
  rw [if_pos (by rw [h1]; rfl), if_pos e2]
  exact h4
/-- an error class with one field -/
def xc_mk {y fl nm q : Str} {C N : Addr} {bs bm : List Value} {sn : List Str} {sub : List Value} {ab : Bool} {col : Option Bool} {dd : Option Addr} {m0 m1 m2 m3 m5 : Option Value} (X : K.In h) (G : h.Ns mainGlobals mg)
    (aC : PySem.W.nsIn K mainGlobals x = some (some (.ref C))) (xL : K.lookup C = some (excClassObj nm q C N bs bm true sn sub ab col dd m0 m1 m2 m3 m5 "ValueError.__new__")) (hbm : PySem.HandSPX.refsVE bm = true)
    (sa : PySem.W.findIn K (.ref C) "__setattr__" = some (some (.builtin "object.__setattr__"))) (eC : PySem.W.subIn K (.ref C) (.type "BaseException") = some true) (tC : PySem.W.typeIn K (.ref C) = some (.type "type")) (kC : PySem.W.keepIn K (.ref C) = true)
    (iC : PySem.W.isClsIn K C = true) (sC : PySem.W.subIn K (.ref C) (.ref C) = some true)
    (nf : PySem.W.findIn K (.ref C) fl = some none) (ic : PySem.W.findIn K (.ref C) "__init__" = some (some (.ref f))) (ti : PySem.W.typeIn K (.ref f) = some (.type "function"))
    (l : K.lookup f = some ⟨oc, od, .func (PySem.W.fnOf "__init__" qual (defArgs st) (defBody st) (defScope st) .none kV doc pm an cdv ct), osl⟩) (c : PySem.W.codeIn K cdv qual = true) (k : PySem.W.keepIn K (.ref f) = true)
    (b : ∀ (kV doc pm : Value) (an : Option Addr) (cdv ct : Value) (us : List Value), us.length = 2 → bindArgs (PySem.W.fnOf "__init__" qual (defArgs st) (defBody st) (defScope st) .none kV doc pm an cdv ct) ⟨us, []⟩ = pure ((["self", y] : List Str).zip us)) : Xc K mg x qual fl y st :=
  { C := C, a := f, d := _, F := fun_mk l c k, b := (fun_mk (st := st) l c k).binds b, ox := ⟨⟨nm, q, N, bs, bm, sn, sub, ab, col, dd, m0, m1, m2, m3, m5, xL, hbm⟩, sa, eC, tC, kC⟩, nf := nf, ic := ic, ti := ti, g := PySem.W.mg_of X G aC, te := exm_own eC iC tC sC }
/-- build: reach= is given, floor is None -/
theorem kbn50 {D : Addr} {fd : FuncData} (e : fd = PySem.W.fnOf "build" "build" (defArgs (topS 50)) (defBody (topS 50)) (defScope (topS 50)) .none (.ref D) doc pm an cdv ct) (hD : PySem.W.nsIn K D "floor" = some (some .none)) :
    KBn K fd ["stack", "target", "reach", "floor"] 2 ["reach"] (fun us ws => us ++ ws ++ [.none]) (fun vs zs => vs ++ zs ++ [.non]) := by
  subst e
  refine ⟨fun s us ws X l1 l2 => BindsTo.of_looks fun M => ?_, fun r1 r2 => (r1.append r2).append (.cons rfl .nil)⟩
  match us, ws, l1, l2 with
  | [u1, u2], [w1], _, _ =>
    refine KwChain.looks (l := [(("floor" : Str), Value.none)]) X (fun q hq => by rw [List.mem_singleton.mp hq]; exact hD) ?_
    exact ⟨_, _, _, _, _, _, rfl, rfl, rfl⟩
/-- build, with its keywords -/
structure Db (K : PySem.W.Frag) (mg : Str → Option Value) extends Dn K mg "build" "build" (topS 50) where
  k : KBn K d ["stack", "target", "reach", "floor"] 2 ["reach"] (fun us ws => us ++ ws ++ [.none]) (fun vs zs => vs ++ zs ++ [.non])
def db_mk {D : Addr} (X : K.In h) (G : h.Ns mainGlobals mg) (a : PySem.W.nsIn K mainGlobals "build" = some (some (.ref f))) (l : K.lookup f = some ⟨oc, od, .func (PySem.W.fnOf "build" "build" (defArgs (topS 50)) (defBody (topS 50)) (defScope (topS 50)) .none (.ref D) doc pm an cdv ct), osl⟩)
    (c : PySem.W.codeIn K cdv "build" = true) (k : PySem.W.keepIn K (.ref f) = true) (hD : PySem.W.nsIn K D "floor" = some (some .none)) : Db K mg := { a := f, d := _, F := fun_mk l c k, g := PySem.W.mg_of X G a, k := kbn50 rfl hD }
/-- an error class whose field is read -/
structure Xb (K : PySem.W.Frag) (mg : Str → Option Value) (x q f y : Str) (st : Stmt) extends Xc K mg x q f y st where
  xf : XfC K C
def xb_mk {y fl nm q : Str} {C N : Addr} {bs bm : List Value} {sn : List Str} {sub : List Value} {ab : Bool} {col : Option Bool} {dd : Option Addr} {m0 m1 m2 m3 m5 : Option Value} (X : K.In h) (G : h.Ns mainGlobals mg)
    (aC : PySem.W.nsIn K mainGlobals x = some (some (.ref C))) (xL : K.lookup C = some (excClassObj nm q C N bs bm true sn sub ab col dd m0 m1 m2 m3 m5 "ValueError.__new__")) (hbm : PySem.HandSPX.refsVE bm = true)
    (sa : PySem.W.findIn K (.ref C) "__setattr__" = some (some (.builtin "object.__setattr__"))) (eC : PySem.W.subIn K (.ref C) (.type "BaseException") = some true) (tC : PySem.W.typeIn K (.ref C) = some (.type "type")) (kC : PySem.W.keepIn K (.ref C) = true)
    (iC : PySem.W.isClsIn K C = true) (sC : PySem.W.subIn K (.ref C) (.ref C) = some true)
    (nf : PySem.W.findIn K (.ref C) fl = some none) (ic : PySem.W.findIn K (.ref C) "__init__" = some (some (.ref f))) (ti : PySem.W.typeIn K (.ref f) = some (.type "function"))
    (l : K.lookup f = some ⟨oc, od, .func (PySem.W.fnOf "__init__" qual (defArgs st) (defBody st) (defScope st) .none kV doc pm an cdv ct), osl⟩) (c : PySem.W.codeIn K cdv qual = true) (k : PySem.W.keepIn K (.ref f) = true)
    (b : ∀ (kV doc pm : Value) (an : Option Addr) (cdv ct : Value) (us : List Value), us.length = 2 → bindArgs (PySem.W.fnOf "__init__" qual (defArgs st) (defBody st) (defScope st) .none kV doc pm an cdv ct) ⟨us, []⟩ = pure ((["self", y] : List Str).zip us))
    (ga : PySem.W.findIn K (.ref C) "__getattribute__" = some (some (.builtin "BaseException.__getattribute__"))) (gg : PySem.W.findIn K (.ref C) "__getattr__" = some none) (hd : PySem.W.hasDictIn K C = true) : Xb K mg x qual fl y st :=
  { toXc := xc_mk X G aC xL hbm sa eC tC kC iC sC nf ic ti l c k b, xf := ⟨ga, gg, eC, hd⟩ }
end
section
variable {P : Program} {w : World} {K : PySem.W.Frag} {mg : Str → Option Value}
theorem end_F {fa : Addr} (T : Ty K mg) (hmg : mg "law" = some (.ref fa)) : ∃ fd : FuncData, (∀ (s : Shared) (u : Value), BindsTo s fd ⟨[u], []⟩ [("_law_script", u)]) ∧ ∀ base : Heap, K.In base → base.Ns mainGlobals mg → FnOk P w K mg base CX0 12 fa fd ["_law_script"] (spG K (pu D70)) := by
  have e := hmg.symm.trans T.f70.g
  have e : fa = T.f70.a := by injection e with e; injection e
  subst e
  refine ⟨T.f70.d, fun s u => ?_, fun base _ _ => ok70 T⟩
  obtain ⟨oc, od, kV, doc, pm, an, cdv, ct, osl, efd, lk, hcd⟩ := T.f70.F.ex
  rw [efd]
  exact .of_eq rfl
theorem end_S (K : PySem.W.Frag) (H : Hp) (a : Addr) (ns : List Int) (hl : ns.length ≤ 63) (hs : SqL K H a (ns.map V.int)) : spG K (pu D70) [.ref a] H (fun v _ => v = .bl true) fun _ _ _ => False := by
  have hd : ∀ l : List Int, DpAll K H (l.map V.int) (l.map PyData.int) := fun l => by
    induction l with
    | nil => exact .nil
    | cons i l ih => exact .cons (.int i) ih
  refine ⟨H, [dL (ns.map PyData.int)], [], fun _ _ e => e, .cons (.lst hs (hd ns)) .nil, fun _ z => (by cases z), List.nodup_nil, fun w _ => w = dB true, ⟨rfl, dB true, ⟨ns, rfl, hl, rfl⟩, rfl⟩, fun w μ' e v B' H' fr rv _ _ => ?_⟩
  subst e
  exact dp_bool rv
end
end De
end
section
set_option Elab.async false
set_option maxRecDepth 100000
set_option maxHeartbeats 0
open PySem PySem.W PyProof.Rows
namespace De
open_top head for PySem.Challenge.rw_deepedge_k27_whole_a_floor_or_a_certific
end De
end
set_option linter.all false
open PySem PySem.W PyProof.Rows
set_option Elab.async false
set_option maxRecDepth 100000 in
set_option maxHeartbeats 0 in
theorem PySem.Challenge.cw_deepedge_k27_whole_a_floor_or_a_certific_holds : PySem.Challenge.rw_deepedge_k27_whole_a_floor_or_a_certific.Holds := by
  refine De.head ?_
  k_fill
  refine L2.walk_ofK (l := PySem.Challenge.rw_deepedge_k27_whole_a_floor_or_a_certific) (n := 63) (k := 12) (x := "_law_script") (CX := L2.CX0) (sp := fun K => De.spG K (De.pu De.D70)) rfl (by decide) rfl ⟨rfl, by decide, by decide⟩ (fun w h Y => PySem.W.kIn_of Y) ?F (fun K H a ns hl _ hs => De.end_S K H a ns hl hs) (fun _ _ _ _ h => h)
  case F =>
    intro w mg fa h KX G hmg
    have z_len := PySem.W.mg_none_of (n := "len") KX G (by k_is)
    have z_min := PySem.W.mg_none_of (n := "min") KX G (by k_is)
    have z_max := PySem.W.mg_none_of (n := "max") KX G (by k_is)
    have z_abs := PySem.W.mg_none_of (n := "abs") KX G (by k_is)
    have z_int := PySem.W.mg_none_of (n := "int") KX G (by k_is)
    have z_list := PySem.W.mg_none_of (n := "list") KX G (by k_is)
    have z_tuple := PySem.W.mg_none_of (n := "tuple") KX G (by k_is)
    have z_isinstance := PySem.W.mg_none_of (n := "isinstance") KX G (by k_is)
    have z_all := PySem.W.mg_none_of (n := "all") KX G (by k_is)
    have z_range := PySem.W.mg_none_of (n := "range") KX G (by k_is)
    have z_zip := PySem.W.mg_none_of (n := "zip") KX G (by k_is)
    have z_enumerate := PySem.W.mg_none_of (n := "enumerate") KX G (by k_is)
    have z_sorted := PySem.W.mg_none_of (n := "sorted") KX G (by k_is)
    have z_set := PySem.W.mg_none_of (n := "set") KX G (by k_is)
    have z_str := PySem.W.mg_none_of (n := "str") KX G (by k_is)
    have z_bool := PySem.W.mg_none_of (n := "bool") KX G (by k_is)
    have vPOP := PySem.W.mg_of (n := "POP") (v := .str "pop" _) KX G (by k_is)
    have vDUP := PySem.W.mg_of (n := "DUP") (v := .str "dup" _) KX G (by k_is)
    have vSWAP := PySem.W.mg_of (n := "SWAP") (v := .str "swap" _) KX G (by k_is)
    have f1 := De.df_mk (x := "common_prefix") (qual := "common_prefix") (st := De.topS 1) (ps := ["one", "other"]) KX G (by k_is) (by k_is) (by k_is) (by k_is) (fun _ _ _ _ _ _ us hl => match us, hl with | [_, _], _ => rfl)
    have f2 := De.df_mk (x := "distinct") (qual := "distinct") (st := De.topS 2) (ps := ["values"]) KX G (by k_is) (by k_is) (by k_is) (by k_is) (fun _ _ _ _ _ _ us hl => match us, hl with | [_], _ => rfl)
    have f3 := De.dk_mk (x := "depth_of") (qual := "depth_of") (st := De.topS 3) (ps := ["target", "reach"]) (n := 1) KX G (by k_is) (by k_is) (by k_is) (by k_is) (fun _ _ _ _ _ _ us ws h1 h2 => match us, ws, h1, h2 with | [_], [_], _, _ => rfl)
    have f4 := De.dk_mk (x := "is_floor") (qual := "is_floor") (st := De.topS 4) (ps := ["stack", "target", "floor", "reach"]) (n := 3) KX G (by k_is) (by k_is) (by k_is) (by k_is) (fun _ _ _ _ _ _ us ws h1 h2 => match us, ws, h1, h2 with | [_, _, _], [_], _, _ => rfl)
    have f5 := De.dk_mk (x := "floors") (qual := "floors") (st := De.topS 5) (ps := ["stack", "target", "reach"]) (n := 2) KX G (by k_is) (by k_is) (by k_is) (by k_is) (fun _ _ _ _ _ _ us ws h1 h2 => match us, ws, h1, h2 with | [_, _], [_], _, _ => rfl)
    have f6 := De.dk_mk (x := "profile") (qual := "profile") (st := De.topS 6) (ps := ["target", "reach"]) (n := 1) KX G (by k_is) (by k_is) (by k_is) (by k_is) (fun _ _ _ _ _ _ us ws h1 h2 => match us, ws, h1, h2 with | [_], [_], _, _ => rfl)
    have f8 := De.df_mk (x := "first_missing") (qual := "first_missing") (st := De.topS 8) (ps := ["stack", "values"]) KX G (by k_is) (by k_is) (by k_is) (by k_is) (fun _ _ _ _ _ _ us hl => match us, hl with | [_, _], _ => rfl)
    have f9 := De.df_mk (x := "barrier") (qual := "barrier") (st := De.topS 9) (ps := ["stack", "target", "depth", "values", "reach"]) KX G (by k_is) (by k_is) (by k_is) (by k_is) (fun _ _ _ _ _ _ us hl => match us, hl with | [_, _, _, _, _], _ => rfl)
    have f10 := De.dk_mk (x := "reaches") (qual := "reaches") (st := De.topS 10) (ps := ["stack", "target", "reach"]) (n := 2) KX G (by k_is) (by k_is) (by k_is) (by k_is) (fun _ _ _ _ _ _ us ws h1 h2 => match us, ws, h1, h2 with | [_, _], [_], _, _ => rfl)
    have f11 := De.dk_mk (x := "decide") (qual := "decide") (st := De.topS 11) (ps := ["stack", "target", "reach"]) (n := 2) KX G (by k_is) (by k_is) (by k_is) (by k_is) (fun _ _ _ _ _ _ us ws h1 h2 => match us, ws, h1, h2 with | [_, _], [_], _, _ => rfl)
    have f20 := De.df_mk (x := "is_between") (qual := "is_between") (st := De.topS 20) (ps := ["thing", "least", "most"]) KX G (by k_is) (by k_is) (by k_is) (by k_is) (fun _ _ _ _ _ _ us hl => match us, hl with | [_, _, _], _ => rfl)
    have f22 := De.df_mk (x := "need") (qual := "need") (st := De.topS 22) (ps := ["is_so", "reason"]) KX G (by k_is) (by k_is) (by k_is) (by k_is) (fun _ _ _ _ _ _ us hl => match us, hl with | [_, _], _ => rfl)
    have f23 := De.df_mk (x := "are_values_of") (qual := "are_values_of") (st := De.topS 23) (ps := ["thing", "cells", "count"]) KX G (by k_is) (by k_is) (by k_is) (by k_is) (fun _ _ _ _ _ _ us hl => match us, hl with | [_, _, _], _ => rfl)
    have f24 := De.df_mk (x := "is_ground") (qual := "is_ground") (st := De.topS 24) (ps := ["stack", "target", "floor", "detail"]) KX G (by k_is) (by k_is) (by k_is) (by k_is) (fun _ _ _ _ _ _ us hl => match us, hl with | [_, _, _, _], _ => rfl)
    have f25 := De.df_mk (x := "is_missing") (qual := "is_missing") (st := De.topS 25) (ps := ["stack", "target", "floor", "detail"]) KX G (by k_is) (by k_is) (by k_is) (by k_is) (fun _ _ _ _ _ _ us hl => match us, hl with | [_, _, _, _], _ => rfl)
    have f26 := De.df_mk (x := "is_edge") (qual := "is_edge") (st := De.topS 26) (ps := ["stack", "target", "floor", "detail", "reach"]) KX G (by k_is) (by k_is) (by k_is) (by k_is) (fun _ _ _ _ _ _ us hl => match us, hl with | [_, _, _, _, _], _ => rfl)
    have f27 := De.dk_mk (x := "check_blocked") (qual := "check_blocked") (st := De.topS 27) (ps := ["stack", "target", "value", "reach"]) (n := 3) KX G (by k_is) (by k_is) (by k_is) (by k_is) (fun _ _ _ _ _ _ us ws h1 h2 => match us, ws, h1, h2 with | [_, _, _], [_], _, _ => rfl)
    have f32 := De.dk_mk (x := "is_instruction") (qual := "is_instruction") (st := De.topS 32) (ps := ["thing", "reach"]) (n := 1) KX G (by k_is) (by k_is) (by k_is) (by k_is) (fun _ _ _ _ _ _ us ws h1 h2 => match us, ws, h1, h2 with | [_], [_], _, _ => rfl)
    have f33 := De.df_mk (x := "items_of") (qual := "items_of") (st := De.topS 33) (ps := ["part"]) KX G (by k_is) (by k_is) (by k_is) (by k_is) (fun _ _ _ _ _ _ us hl => match us, hl with | [_], _ => rfl)
    have f34 := De.df_mk (x := "joined") (qual := "joined") (st := De.topS 34) (ps := ["parts"]) KX G (by k_is) (by k_is) (by k_is) (by k_is) (fun _ _ _ _ _ _ us hl => match us, hl with | [_], _ => rfl)
    have f35 := De.df_mk (x := "cells_needed") (qual := "cells_needed") (st := De.topS 35) (ps := ["instruction"]) KX G (by k_is) (by k_is) (by k_is) (by k_is) (fun _ _ _ _ _ _ us hl => match us, hl with | [_], _ => rfl)
    have f38 := De.df_mk (x := "removable") (qual := "removable") (st := De.topS 38) (ps := ["site", "base", "keep"]) KX G (by k_is) (by k_is) (by k_is) (by k_is) (fun _ _ _ _ _ _ us hl => match us, hl with | [_, _, _], _ => rfl)
    have f39 := De.df_mk (x := "lower") (qual := "lower") (st := De.topS 39) (ps := ["site", "base", "height", "keep"]) KX G (by k_is) (by k_is) (by k_is) (by k_is) (fun _ _ _ _ _ _ us hl => match us, hl with | [_, _, _, _], _ => rfl)
    have f41 := De.df_mk (x := "index_of") (qual := "index_of") (st := De.topS 41) (ps := ["site", "value", "least"]) KX G (by k_is) (by k_is) (by k_is) (by k_is) (fun _ _ _ _ _ _ us hl => match us, hl with | [_, _, _], _ => rfl)
    have f42 := De.df_mk (x := "spare_index") (qual := "spare_index") (st := De.topS 42) (ps := ["site", "floor", "value", "needed"]) KX G (by k_is) (by k_is) (by k_is) (by k_is) (fun _ _ _ _ _ _ us hl => match us, hl with | [_, _, _, _], _ => rfl)
    have f43 := De.df_mk (x := "double") (qual := "double") (st := De.topS 43) (ps := ["site", "floor", "value", "needed"]) KX G (by k_is) (by k_is) (by k_is) (by k_is) (fun _ _ _ _ _ _ us hl => match us, hl with | [_, _, _, _], _ => rfl)
    have f44 := De.df_mk (x := "settle") (qual := "settle") (st := De.topS 44) (ps := ["site", "floor", "target"]) KX G (by k_is) (by k_is) (by k_is) (by k_is) (fun _ _ _ _ _ _ us hl => match us, hl with | [_, _, _], _ => rfl)
    have f45 := De.df_mk (x := "lacking") (qual := "lacking") (st := De.topS 45) (ps := ["site", "base", "target"]) KX G (by k_is) (by k_is) (by k_is) (by k_is) (fun _ _ _ _ _ _ us hl => match us, hl with | [_, _, _], _ => rfl)
    have f46 := De.df_mk (x := "climb") (qual := "climb") (st := De.topS 46) (ps := ["site", "target"]) KX G (by k_is) (by k_is) (by k_is) (by k_is) (fun _ _ _ _ _ _ us hl => match us, hl with | [_, _], _ => rfl)
    have f47 := De.df_mk (x := "finish") (qual := "finish") (st := De.topS 47) (ps := ["site", "target"]) KX G (by k_is) (by k_is) (by k_is) (by k_is) (fun _ _ _ _ _ _ us hl => match us, hl with | [_, _], _ => rfl)
    have f48 := De.df_mk (x := "is_extra") (qual := "is_extra") (st := De.topS 48) (ps := ["site", "base", "target", "index"]) KX G (by k_is) (by k_is) (by k_is) (by k_is) (fun _ _ _ _ _ _ us hl => match us, hl with | [_, _, _, _], _ => rfl)
    have f49 := De.df_mk (x := "rebuilt") (qual := "rebuilt") (st := De.topS 49) (ps := ["stack", "target", "reach", "floor"]) KX G (by k_is) (by k_is) (by k_is) (by k_is) (fun _ _ _ _ _ _ us hl => match us, hl with | [_, _, _, _], _ => rfl)
    have f50 := De.db_mk KX G (by k_is) (by k_is) (by k_is) (by k_is) (by k_is)
    have f52 := De.df_mk (x := "applied") (qual := "applied") (st := De.topS 52) (ps := ["stack", "instruction"]) KX G (by k_is) (by k_is) (by k_is) (by k_is) (fun _ _ _ _ _ _ us hl => match us, hl with | [_, _], _ => rfl)
    have f53 := De.df_mk (x := "lowest_cell") (qual := "lowest_cell") (st := De.topS 53) (ps := ["height", "instruction"]) KX G (by k_is) (by k_is) (by k_is) (by k_is) (fun _ _ _ _ _ _ us hl => match us, hl with | [_, _], _ => rfl)
    have f54 := De.dn_mk (x := "trace") (qual := "trace") (st := De.topS 54) KX G (by k_is) (by k_is) (by k_is) (by k_is)
    have f55 := De.dn_mk (x := "run") (qual := "run") (st := De.topS 55) KX G (by k_is) (by k_is) (by k_is) (by k_is)
    have f56 := De.dn_mk (x := "untouched") (qual := "untouched") (st := De.topS 56) KX G (by k_is) (by k_is) (by k_is) (by k_is)
    have f58 := De.df_mk (x := "_law_pen") (qual := "_law_pen") (st := De.topS 58) (ps := ["_law_script"]) KX G (by k_is) (by k_is) (by k_is) (by k_is) (fun _ _ _ _ _ _ us hl => match us, hl with | [_], _ => rfl)
    have f59 := De.df_mk (x := "_law_draw") (qual := "_law_draw") (st := De.topS 59) (ps := ["_law_pen_here", "_law_many"]) KX G (by k_is) (by k_is) (by k_is) (by k_is) (fun _ _ _ _ _ _ us hl => match us, hl with | [_, _], _ => rfl)
    have f60 := De.df_mk (x := "_law_pool") (qual := "_law_pool") (st := De.topS 60) (ps := ["_law_pen_here", "_law_many"]) KX G (by k_is) (by k_is) (by k_is) (by k_is) (fun _ _ _ _ _ _ us hl => match us, hl with | [_, _], _ => rfl)
    have f61 := De.df_mk (x := "_law_pile") (qual := "_law_pile") (st := De.topS 61) (ps := ["_law_pen_here", "_law_pool_here", "_law_tallest"]) KX G (by k_is) (by k_is) (by k_is) (by k_is) (fun _ _ _ _ _ _ us hl => match us, hl with | [_, _, _], _ => rfl)
    have f62 := De.df_mk (x := "_law_steps") (qual := "_law_steps") (st := De.topS 62) (ps := ["_law_pen_here", "_law_height", "_law_bound", "_law_many"]) KX G (by k_is) (by k_is) (by k_is) (by k_is) (fun _ _ _ _ _ _ us hl => match us, hl with | [_, _, _, _], _ => rfl)
    have f63 := De.df_mk (x := "_law_moved") (qual := "_law_moved") (st := De.topS 63) (ps := ["_law_pile_here", "_law_step"]) KX G (by k_is) (by k_is) (by k_is) (by k_is) (fun _ _ _ _ _ _ us hl => match us, hl with | [_, _], _ => rfl)
    have f64 := De.df_mk (x := "_law_goal") (qual := "_law_goal") (st := De.topS 64) (ps := ["_law_pen_here", "_law_pool_here", "_law_pile_here", "_law_bound"]) KX G (by k_is) (by k_is) (by k_is) (by k_is) (fun _ _ _ _ _ _ us hl => match us, hl with | [_, _, _, _], _ => rfl)
    have f65 := De.df_mk (x := "_law_scene") (qual := "_law_scene") (st := De.topS 65) (ps := ["_law_pen_here"]) KX G (by k_is) (by k_is) (by k_is) (by k_is) (fun _ _ _ _ _ _ us hl => match us, hl with | [_], _ => rfl)
    have f66 := De.df_mk (x := "_law_accepts") (qual := "_law_accepts") (st := De.topS 66) (ps := ["_law_pile_here", "_law_goal_here", "_law_given", "_law_bound"]) KX G (by k_is) (by k_is) (by k_is) (by k_is) (fun _ _ _ _ _ _ us hl => match us, hl with | [_, _, _, _], _ => rfl)
    have f67 := De.df_mk (x := "_law_built") (qual := "_law_built") (st := De.topS 67) (ps := ["_law_pile_here", "_law_goal_here", "_law_bound"]) KX G (by k_is) (by k_is) (by k_is) (by k_is) (fun _ _ _ _ _ _ us hl => match us, hl with | [_, _, _], _ => rfl)
    have f68 := De.df_mk (x := "_law_offered") (qual := "_law_offered") (st := De.topS 68) (ps := ["_law_pen_here", "_law_made", "_law_ground"]) KX G (by k_is) (by k_is) (by k_is) (by k_is) (fun _ _ _ _ _ _ us hl => match us, hl with | [_, _, _], _ => rfl)
    have f69 := De.df_mk (x := "_law_pair_right") (qual := "_law_pair_right") (st := De.topS 69) (ps := ["_law_pile_here", "_law_goal_here", "_law_bound", "_law_offered_here"]) KX G (by k_is) (by k_is) (by k_is) (by k_is) (fun _ _ _ _ _ _ us hl => match us, hl with | [_, _, _, _], _ => rfl)
    have f70 := De.df_mk (x := "law") (qual := "law") (st := De.topS 70) (ps := ["_law_script"]) KX G (by k_is) (by k_is) (by k_is) (by k_is) (fun _ _ _ _ _ _ us hl => match us, hl with | [_], _ => rfl)
    have fS := De.ts_mk KX G (by k_is) (by k_is) (by k_is) (by k_is) (by k_is) (by k_is) (by k_is) (by k_is) (by k_is) (by k_is) (by k_is) (by k_is) (by k_is) (by k_is) (by k_is) (by k_is) (by k_is) (by k_is) (by k_is) (by k_is) (by k_is) (by k_is) (De.dm_mk (x := "pop") (qual := "Site.pop") (st := L2.inClass (De.topS 37) 2) (ps := ["self"]) (by k_is) (by k_is) (by k_is) (by k_is) (by k_is) (fun _ _ _ _ _ _ us hl => match us, hl with | [_], _ => rfl)) (De.dm_mk (x := "copy") (qual := "Site.copy") (st := L2.inClass (De.topS 37) 3) (ps := ["self", "index"]) (by k_is) (by k_is) (by k_is) (by k_is) (by k_is) (fun _ _ _ _ _ _ us hl => match us, hl with | [_, _], _ => rfl)) (De.dm_mk (x := "exchange") (qual := "Site.exchange") (st := L2.inClass (De.topS 37) 4) (ps := ["self", "index"]) (by k_is) (by k_is) (by k_is) (by k_is) (by k_is) (fun _ _ _ _ _ _ us hl => match us, hl with | [_, _], _ => rfl)) (De.dm_mk (x := "remove") (qual := "Site.remove") (st := L2.inClass (De.topS 37) 5) (ps := ["self", "index"]) (by k_is) (by k_is) (by k_is) (by k_is) (by k_is) (fun _ _ _ _ _ _ us hl => match us, hl with | [_, _], _ => rfl)) (De.dm_mk (x := "replace") (qual := "Site.replace") (st := L2.inClass (De.topS 37) 6) (ps := ["self", "index", "source"]) (by k_is) (by k_is) (by k_is) (by k_is) (by k_is) (fun _ _ _ _ _ _ us hl => match us, hl with | [_, _, _], _ => rfl)) (De.dm_mk (x := "move") (qual := "Site.move") (st := L2.inClass (De.topS 37) 7) (ps := ["self", "source", "index"]) (by k_is) (by k_is) (by k_is) (by k_is) (by k_is) (fun _ _ _ _ _ _ us hl => match us, hl with | [_, _, _], _ => rfl)) (De.dm_mk (x := "lowest_in_reach") (qual := "Site.lowest_in_reach") (st := L2.inClass (De.topS 37) 8) (ps := ["self"]) (by k_is) (by k_is) (by k_is) (by k_is) (by k_is) (fun _ _ _ _ _ _ us hl => match us, hl with | [_], _ => rfl))
    have x14 := De.xc_mk (x := "InvalidCertificate") (qual := "InvalidCertificate.__init__") (fl := "reason") (y := "reason") (st := L2.inClass (De.topS 14) 0) KX G (by k_is) (by k_is) (by rfl) (by k_is) (by k_is) (by k_is) (by k_is) (by k_is) (by k_is) (by k_is) (by k_is) (by k_is) (by k_is) (by k_is) (by k_is) (fun _ _ _ _ _ _ us hl => match us, hl with | [_, _], _ => rfl)
    have x16 := De.xb_mk (x := "Blocked") (qual := "Blocked.__init__") (fl := "certificate") (y := "certificate") (st := L2.inClass (De.topS 16) 0) KX G (by k_is) (by k_is) (by rfl) (by k_is) (by k_is) (by k_is) (by k_is) (by k_is) (by k_is) (by k_is) (by k_is) (by k_is) (by k_is) (by k_is) (by k_is) (fun _ _ _ _ _ _ us hl => match us, hl with | [_, _], _ => rfl) (by k_is) (by k_is) (by k_is)
    exact De.end_F { toTs := fS, z_len := z_len, z_min := z_min, z_max := z_max, z_abs := z_abs, z_int := z_int, z_list := z_list, z_tuple := z_tuple, z_isinstance := z_isinstance, z_all := z_all, z_range := z_range, z_zip := z_zip, z_enumerate := z_enumerate, z_sorted := z_sorted, z_set := z_set, z_str := z_str, z_bool := z_bool, vPOP := _, mPOP := vPOP, cPOP := ⟨_, rfl⟩, vDUP := _, mDUP := vDUP, cDUP := ⟨_, rfl⟩, vSWAP := _, mSWAP := vSWAP, cSWAP := ⟨_, rfl⟩, f1 := f1, f2 := f2, f3 := f3, f4 := f4, f5 := f5, f6 := f6, f8 := f8, f9 := f9, f10 := f10, f11 := f11, f20 := f20, f22 := f22, f23 := f23, f24 := f24, f25 := f25, f26 := f26, f27 := f27, f32 := f32, f33 := f33, f34 := f34, f35 := f35, f38 := f38, f39 := f39, f41 := f41, f42 := f42, f43 := f43, f44 := f44, f45 := f45, f46 := f46, f47 := f47, f48 := f48, f49 := f49, f50 := f50.toDn, f52 := f52, f53 := f53, f54 := f54, f55 := f55, f56 := f56, f58 := f58, f59 := f59, f60 := f60, f61 := f61, f62 := f62, f63 := f63, f64 := f64, f65 := f65, f66 := f66, f67 := f67, f68 := f68, f69 := f69, f70 := f70, x14 := x14, x16 := x16.toXc, xf16 := x16.xf, k50 := f50.k } hmg
