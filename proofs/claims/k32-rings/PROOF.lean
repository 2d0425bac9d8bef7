import PyProof.Rows.All
import Wide.All
import OpenK.AllK
import Wide.FinOn
import HandS.ForMost
import HandS.Conv
import HandS.TupAny
import HandS.Deep
import HandS.IsInst
import HandS.Walk
import HandS.SortInts
import HandS.SortOrd
import HandS.TupSets
import HandS.Keys
import HandS.More
import HandS.DictTup
import HandS.TupLen
import KE.DataMinMax
import KE.DataFind
import KE.KDictWalk
import HandS.Sort
import PyProof.TupleOfSeq
import PySem.Challenge.RW_frontways_k32_whole_rings
section
/-! M1: rings as sets of ties, and the walk round them. Plain Lean. -/
set_option autoImplicit false
set_option linter.all false
namespace Fw

def inc (e : Nat → Nat × Nat) (p k : Nat) : Bool := (e k).1 == p || (e k).2 == p
def deg (e : Nat → Nat × Nat) (S : List Nat) (p : Nat) : Nat := S.countP (inc e p)
def IsRing (e : Nat → Nat × Nat) (S : List Nat) : Prop :=
  S ≠ [] ∧ (∀ p, deg e S p = 0 ∨ deg e S p = 2) ∧
  ∀ T, T.Sublist S → T ≠ [] → (∀ p, deg e T p = 0 ∨ deg e T p = 2) → T = S
def Const (e : Nat → Nat × Nat) (S : List Nat) (χ : Nat → Bool) : Prop := ∀ t ∈ S, χ (e t).1 = χ (e t).2
def Conn (e : Nat → Nat × Nat) (S : List Nat) (x y : Nat) : Prop := ∀ χ, Const e S χ → χ x = χ y

section
variable {e : Nat → Nat × Nat}
theorem inc_fst (k : Nat) : inc e (e k).1 k = true := by simp [inc]
theorem inc_snd (k : Nat) : inc e (e k).2 k = true := by simp [inc]
theorem inc_iff {p k : Nat} : inc e p k = true ↔ (e k).1 = p ∨ (e k).2 = p := by simp [inc]
theorem deg_cons (k : Nat) (S : List Nat) (p : Nat) : deg e (k :: S) p = deg e S p + (if inc e p k = true then 1 else 0) := by
  simp [deg, List.countP_cons]
theorem deg_append (S T : List Nat) (p : Nat) : deg e (S ++ T) p = deg e S p + deg e T p := by
  simp [deg, List.countP_append]
theorem deg_nil (p : Nat) : deg e [] p = 0 := rfl
theorem deg_pos {S : List Nat} {p k : Nat} (h : k ∈ S) (hi : inc e p k = true) : 0 < deg e S p :=
  List.countP_pos_iff.mpr ⟨k, h, hi⟩
theorem deg_ex {S : List Nat} {p : Nat} (h : 0 < deg e S p) : ∃ k ∈ S, inc e p k = true := List.countP_pos_iff.mp h
theorem deg_sub {T S : List Nat} (h : T.Sublist S) (p : Nat) : deg e T p ≤ deg e S p := h.countP_le
theorem deg_lt {T S : List Nat} (h : T.Sublist S) {t p : Nat} (ht : t ∈ S) (hn : t ∉ T) (hi : inc e p t = true) : deg e T p + 1 ≤ deg e S p := by
  induction h with
  | slnil => cases ht
  | @cons T S x h ih =>
    rw [deg_cons]
    rcases List.mem_cons.mp ht with rfl | ht
    · rw [if_pos hi]; have := deg_sub (e := e) h p; omega
    · have := ih ht hn; omega
  | @cons_cons T S x h ih =>
    rw [deg_cons, deg_cons]
    have hx : t ≠ x := fun z => hn (z ▸ List.mem_cons_self)
    have := ih ((List.mem_cons.mp ht).resolve_left hx) (fun z => hn (List.mem_cons_of_mem _ z))
    omega
theorem sub_all {T S : List Nat} (h : T.Sublist S) (nd : S.Nodup) (a : ∀ t ∈ S, t ∈ T) : T = S := by
  induction h with
  | slnil => rfl
  | @cons T S x h ih =>
    have hx := a x List.mem_cons_self
    exact absurd (h.subset hx) (List.nodup_cons.mp nd).1
  | @cons_cons T S x h ih =>
    rw [ih (List.nodup_cons.mp nd).2 fun t ht => ?_]
    rcases List.mem_cons.mp (a t (List.mem_cons_of_mem _ ht)) with rfl | z
    · exact absurd ht (List.nodup_cons.mp nd).1
    · exact z
/-- the points of a closed subset: constant along the ties -/
theorem const_of {T S : List Nat} (h : T.Sublist S) (d : ∀ p, deg e S p ≤ 2) (dT : ∀ p, deg e T p = 0 ∨ deg e T p = 2) : Const e S fun x => decide (0 < deg e T x) := by
  intro t ht
  have key : ∀ p, inc e p t = true → (0 < deg e T p ↔ t ∈ T) := fun p hp => by
    constructor
    · intro z
      apply Classical.byContradiction
      intro hn
      have := deg_lt h ht hn hp
      have := d p
      rcases dT p with q | q <;> omega
    · intro z; exact deg_pos z hp
  have := key _ (inc_fst (e := e) t)
  have := key _ (inc_snd (e := e) t)
  simp only [*]
/-- a set all of whose points hang together is least -/
theorem least_of {S : List Nat} (nd : S.Nodup) (d : ∀ p, deg e S p = 0 ∨ deg e S p = 2) (hne : S ≠ []) (c : ∃ a, ∀ χ, Const e S χ → ∀ x, 0 < deg e S x → χ x = χ a) : IsRing e S := by
  refine ⟨hne, d, fun T h hT dT => ?_⟩
  obtain ⟨a, ha⟩ := c
  have d2 : ∀ p, deg e S p ≤ 2 := fun p => by rcases d p with q | q <;> omega
  have hc := ha _ (const_of h d2 dT)
  obtain ⟨t, ht⟩ := List.exists_mem_of_ne_nil T hT
  have h1 : 0 < deg e T (e t).1 := deg_pos ht (inc_fst t)
  have h2 := hc _ (Nat.lt_of_lt_of_le h1 (deg_sub h _))
  refine sub_all h nd fun s hs => ?_
  have h3 : 0 < deg e S (e s).1 := deg_pos hs (inc_fst s)
  have h4 := hc _ h3
  have h5 : 0 < deg e T (e s).1 := by
    have z : decide (0 < deg e T (e s).1) = decide (0 < deg e T (e t).1) := h4.trans h2.symm
    rw [decide_eq_true h1] at z
    exact of_decide_eq_true z
  apply Classical.byContradiction
  intro hn
  have h6 := deg_lt h hs hn (inc_fst (e := e) s)
  have := d2 (e s).1
  rcases dT (e s).1 with q | q <;> omega

/-! ### the walk -/
def other (e : Nat → Nat × Nat) (k h : Nat) : Nat := (e k).1 + (e k).2 - h
def walkLoop (e : Nat → Nat × Nat) : Nat → Bool → Nat → List Nat → List Nat → Option (Nat × List Nat)
  | 0, _, here, _, seen => some (here, seen)
  | j + 1, first, here, left, seen =>
    if (left.filter (inc e here)).length ≠ 1 + (if first then 1 else 0) ∨ here ∈ seen then none
    else walkLoop e j false (other e ((left.filter (inc e here)).headD 0) here) (left.erase ((left.filter (inc e here)).headD 0)) (seen ++ [here])
def walk (e : Nat → Nat × Nat) : List Nat → List Nat
  | [] => []
  | s :: S => match walkLoop e (s :: S).length true (e s).1 (s :: S) [] with
    | none => []
    | some (h, seen) => if h = (e s).1 then seen else []

structure WInv (e : Nat → Nat × Nat) (S : List Nat) (b here : Nat) (left seen : List Nat) : Prop where
  sub : left.Sublist S
  ndS : seen.Nodup
  deg : ∀ x, deg e S x + (if x = b then 1 else 0) = Fw.deg e left x + 2 * seen.count x + (if x = here then 1 else 0)
  len : left.length + seen.length = S.length

theorem head_mem {l : List Nat} {f : Nat → Bool} {n : Nat} (h : (l.filter f).length = n + 1) : (l.filter f).headD 0 ∈ l ∧ f ((l.filter f).headD 0) = true := by
  cases q : l.filter f with
  | nil => rw [q] at h; simp at h
  | cons a m =>
    have : a ∈ l.filter f := by rw [q]; exact List.mem_cons_self
    exact ⟨(List.mem_filter.mp this).1, (List.mem_filter.mp this).2⟩
theorem deg_erase {l : List Nat} {k : Nat} (h : k ∈ l) (x : Nat) : deg e (l.erase k) x + (if inc e x k = true then 1 else 0) = deg e l x := by
  have := (List.perm_cons_erase h).countP_eq (inc e x)
  simp only [deg, this, List.countP_cons]
theorem other_of {k h : Nat} (hi : inc e h k = true) (ne : (e k).1 ≠ (e k).2) (x : Nat) :
    (if inc e x k = true then 1 else 0) = (if x = h then 1 else 0) + (if x = other e k h then 1 else 0) ∧ h ≠ other e k h := by
  have z := inc_iff.mp hi
  have ho : other e k h = if (e k).1 = h then (e k).2 else (e k).1 := by
    unfold other; split <;> omega
  rw [ho]
  simp only [inc_iff]
  by_cases h1 : (e k).1 = h
  · simp only [h1]
    refine ⟨?_, by simp; omega⟩
    simp
    split <;> split <;> split <;> omega
  · have h2 : (e k).2 = h := z.resolve_left h1
    simp only [if_neg h1, h2]
    refine ⟨?_, by omega⟩
    split <;> split <;> split <;> omega
theorem WInv.step {S : List Nat} {b here : Nat} {left seen : List Nat} (W : WInv e S b here left seen) (ne : ∀ t ∈ S, (e t).1 ≠ (e t).2) {k : Nat} (hk : k ∈ left) (hi : inc e here k = true) (hs : here ∉ seen) :
    WInv e S b (other e k here) (left.erase k) (seen ++ [here]) where
  sub := (List.erase_sublist).trans W.sub
  ndS := by
    rw [List.nodup_append]
    exact ⟨W.ndS, by simp, by intro a ha c hc; rw [List.mem_singleton.mp hc]; exact fun z => hs (z ▸ ha)⟩
  deg := fun x => by
    have h1 := W.deg x
    have h2 := deg_erase (e := e) hk x
    have h3 := (other_of (e := e) hi (ne k (W.sub.subset hk)) x).1
    have h4 : (seen ++ [here]).count x = seen.count x + (if x = here then 1 else 0) := by
      rw [List.count_append, List.count_singleton]
      by_cases q : here = x
      · simp [q]
      · simp [q, Ne.symm q]
    rw [h4]
    omega
  len := by
    have := List.length_erase_of_mem hk
    have := List.length_pos_of_mem hk
    have := W.len
    simp
    omega
theorem walkLoop_fwd {S : List Nat} (ne : ∀ t ∈ S, (e t).1 ≠ (e t).2) {b : Nat} : ∀ (j : Nat) (first : Bool) (here : Nat) (left seen : List Nat) (h : Nat) (seen' : List Nat),
    WInv e S b here left seen → j = left.length → walkLoop e j first here left seen = some (h, seen') →
    WInv e S b h [] seen' ∧ ∀ χ, Const e S χ → (∀ v ∈ seen, χ v = χ b) → χ here = χ b → (∀ v ∈ seen', χ v = χ b)
  | 0, first, here, left, seen, h, seen', W, hj, hr => by
    simp only [walkLoop, Option.some.injEq, Prod.mk.injEq] at hr
    obtain ⟨rfl, rfl⟩ := hr
    have : left = [] := List.eq_nil_of_length_eq_zero hj.symm
    subst this
    exact ⟨W, fun χ _ hv _ => hv⟩
  | j + 1, first, here, left, seen, h, seen', W, hj, hr => by
    unfold walkLoop at hr
    by_cases hc : (left.filter (inc e here)).length ≠ 1 + (if first then 1 else 0) ∨ here ∈ seen
    · rw [if_pos hc] at hr; cases hr
    · rw [if_neg hc] at hr
      have hc1 : (left.filter (inc e here)).length = 1 + (if first then 1 else 0) := by
        apply Classical.byContradiction; intro z; exact hc (.inl z)
      have hc2 : here ∉ seen := fun z => hc (.inr z)
      have ⟨m1, m2⟩ := head_mem (n := if first then 1 else 0) (by omega : (left.filter (inc e here)).length = (if first then 1 else 0) + 1)
      have W' := W.step ne m1 m2 hc2
      have ⟨R1, R2⟩ := walkLoop_fwd ne j false _ _ _ h seen' W' (by rw [List.length_erase_of_mem m1]; omega) hr
      refine ⟨R1, fun χ hχ hv hh => R2 χ hχ (fun v hv' => ?_) ?_⟩
      · rcases List.mem_append.mp hv' with z | z
        · exact hv v z
        · rw [List.mem_singleton.mp z]; exact hh
      · have h1 := hχ _ (W.sub.subset m1)
        have h2 := inc_iff.mp m2
        unfold other
        rcases h2 with q | q
        · rw [show (e ((left.filter (inc e here)).headD 0)).1 + (e ((left.filter (inc e here)).headD 0)).2 - here = (e ((left.filter (inc e here)).headD 0)).2 by omega, ← h1, q]; exact hh
        · rw [show (e ((left.filter (inc e here)).headD 0)).1 + (e ((left.filter (inc e here)).headD 0)).2 - here = (e ((left.filter (inc e here)).headD 0)).1 by omega, h1, q]; exact hh
theorem WInv.start {S : List Nat} {b : Nat} : WInv e S b b S [] := ⟨List.Sublist.refl _, List.nodup_nil, fun x => by simp, by simp⟩
/-- what a walk that comes round shows -/
theorem walk_shows {S : List Nat} (ne : ∀ t ∈ S, (e t).1 ≠ (e t).2) (h : walk e S ≠ []) : ∃ b, WInv e S b b [] (walk e S) ∧ ∀ χ, Const e S χ → ∀ v ∈ walk e S, χ v = χ b := by
  cases S with
  | nil => exact absurd rfl h
  | cons s S =>
    cases hw : walkLoop e (s :: S).length true (e s).1 (s :: S) [] with
    | none =>
      exfalso; apply h
      show (match walkLoop e (s :: S).length true (e s).1 (s :: S) [] with | none => [] | some (h, seen) => if h = (e s).1 then seen else []) = _
      rw [hw]
    | some r =>
      obtain ⟨x, seen⟩ := r
      have hS : walk e (s :: S) = if x = (e s).1 then seen else [] := by
        show (match walkLoop e (s :: S).length true (e s).1 (s :: S) [] with | none => [] | some (h, seen) => if h = (e s).1 then seen else []) = _
        rw [hw]
      have hx : x = (e s).1 := by
        apply Classical.byContradiction; intro z; apply h; rw [hS, if_neg z]
      rw [if_pos hx] at hS
      have ⟨R1, R2⟩ := walkLoop_fwd ne _ _ _ _ _ x seen WInv.start rfl hw
      rw [hS]
      rw [hx] at R1
      exact ⟨_, R1, fun χ hχ => R2 χ hχ (fun v hv => nomatch hv) rfl⟩
theorem walk_deg {S : List Nat} (ne : ∀ t ∈ S, (e t).1 ≠ (e t).2) (h : walk e S ≠ []) : (walk e S).Nodup ∧ (walk e S).length = S.length ∧ ∀ x, deg e S x = 2 * (walk e S).count x := by
  obtain ⟨b, W, _⟩ := walk_shows ne h
  refine ⟨W.ndS, by have := W.len; simpa using this, fun x => ?_⟩
  have := W.deg x
  simp only [deg_nil] at this
  omega
theorem walk_ring {S : List Nat} (nd : S.Nodup) (ne : ∀ t ∈ S, (e t).1 ≠ (e t).2) (h : walk e S ≠ []) : IsRing e S := by
  obtain ⟨b, W, c⟩ := walk_shows ne h
  obtain ⟨n1, n2, n3⟩ := walk_deg ne h
  refine least_of nd (fun p => ?_) (fun z => h (by rw [z]; rfl)) ⟨b, fun χ hχ x hx => c χ hχ x ?_⟩
  · have := List.nodup_iff_count.mp n1 p
    rw [n3]; omega
  · rw [n3] at hx
    exact List.count_pos_iff.mp (by omega)
theorem deg_split {left S : List Nat} (h : left.Sublist S) (nd : S.Nodup) (x : Nat) : deg e S x = deg e left x + deg e (S.filter fun t => !left.contains t) x := by
  induction h with
  | slnil => rfl
  | @cons T S y h ih =>
    have ⟨ny, nd'⟩ := List.nodup_cons.mp nd
    have hy : (!T.contains y) = true := by
      have : y ∉ T := fun z => ny (h.subset z)
      simp [this]
    rw [List.filter_cons_of_pos (p := fun t => !T.contains t) hy, deg_cons, deg_cons, ih nd']
    omega
  | @cons_cons T S y h ih =>
    have ⟨ny, nd'⟩ := List.nodup_cons.mp nd
    have hy : ¬ (!(y :: T).contains y) = true := by simp
    have hf : (S.filter fun t => !(y :: T).contains t) = S.filter fun t => !T.contains t := by
      apply List.filter_congr
      intro t ht
      have : t ≠ y := fun z => ny (z ▸ ht)
      simp [this]
    rw [List.filter_cons_of_neg (p := fun t => !(y :: T).contains t) hy, hf, deg_cons, deg_cons, ih nd']
    omega
theorem len_split {left S : List Nat} (h : left.Sublist S) (nd : S.Nodup) : S.length = left.length + (S.filter fun t => !left.contains t).length := by
  have := deg_split (e := fun _ => (0, 0)) h nd 0
  have hi : ∀ L : List Nat, deg (fun _ => ((0 : Nat), (0 : Nat))) L 0 = L.length := fun L => by
    show L.countP (fun k => inc (fun _ => ((0 : Nat), (0 : Nat))) 0 k) = L.length
    rw [List.countP_eq_length]
    intro a _
    rfl
  rw [hi, hi, hi] at this
  exact this
theorem walkLoop_bwd {S : List Nat} (nd : S.Nodup) (ne : ∀ t ∈ S, (e t).1 ≠ (e t).2) (R : IsRing e S) {b : Nat} (hb : 0 < deg e S b) : ∀ (j : Nat) (first : Bool) (here : Nat) (left seen : List Nat),
    WInv e S b here left seen → j = left.length → (first = true ↔ seen = []) → (seen = [] → here = b) → ∃ seen', walkLoop e j first here left seen = some (b, seen')
  | 0, first, here, left, seen, W, hj, hf, h0 => by
    have : left = [] := List.eq_nil_of_length_eq_zero hj.symm
    subst this
    have h1 := W.deg b
    rw [if_pos rfl, deg_nil] at h1
    by_cases hh : b = here
    · exact ⟨seen, by rw [hh]; rfl⟩
    · rw [if_neg hh] at h1
      rcases R.2.1 b with q | q <;> omega
  | j + 1, first, here, left, seen, W, hj, hf, h0 => by
    have hd : deg e left here = 1 + (if first then 1 else 0) ∧ here ∉ seen := by
      by_cases hs : seen = []
      · have hh := h0 hs
        subst hs
        have : left = S := sub_all W.sub nd fun t ht => by
          have hl := W.len
          have := W.sub.eq_of_length (by simpa using hl)
          rw [this]; exact ht
        rw [this, if_pos (hf.mpr rfl), hh]
        refine ⟨?_, by simp⟩
        rcases R.2.1 b with q | q <;> omega
      · have hf' : first ≠ true := fun z => hs (hf.mp z)
        rw [if_neg hf']
        have hne : here ≠ b := fun z => by
          subst z
          have hR : (S.filter fun t => !left.contains t) = S := by
            refine R.2.2 _ List.filter_sublist (fun z => ?_) fun p => ?_
            · have := len_split W.sub nd
              rw [z] at this
              have h2 := W.len
              have : seen.length = 0 := by simp at this; omega
              exact hs (List.eq_nil_of_length_eq_zero this)
            · have h1 := deg_split (e := e) W.sub nd p
              have h2 := W.deg p
              have h3 := List.nodup_iff_count.mp W.ndS p
              omega
          have := len_split W.sub nd
          rw [hR] at this
          omega
        have h1 := W.deg here
        rw [if_neg hne, if_pos rfl] at h1
        have h2 : deg e left here = 1 ∧ seen.count here = 0 := by
          rcases R.2.1 here with q | q <;> omega
        refine ⟨by omega, fun z => ?_⟩
        have := List.count_pos_iff.mpr z
        omega
    obtain ⟨hd1, hd2⟩ := hd
    have hlen : (left.filter (inc e here)).length = 1 + (if first then 1 else 0) := by
      rw [← hd1, deg, List.countP_eq_length_filter]
    unfold walkLoop
    rw [if_neg (by rintro (z | z); exact z hlen; exact hd2 z)]
    have ⟨m1, m2⟩ := head_mem (n := if first then 1 else 0) (by omega : (left.filter (inc e here)).length = (if first then 1 else 0) + 1)
    exact walkLoop_bwd nd ne R hb j false _ _ _ (W.step ne m1 m2 hd2) (by rw [List.length_erase_of_mem m1]; omega) (by simp) (by simp)
theorem ring_walk {S : List Nat} (nd : S.Nodup) (ne : ∀ t ∈ S, (e t).1 ≠ (e t).2) (R : IsRing e S) : walk e S ≠ [] := by
  cases S with
  | nil => exact absurd rfl R.1
  | cons s S =>
    obtain ⟨seen, h⟩ := walkLoop_bwd nd ne R (b := (e s).1) (deg_pos List.mem_cons_self (inc_fst s)) (s :: S).length true (e s).1 (s :: S) [] WInv.start rfl (by simp) (fun _ => rfl)
    have ⟨R1, _⟩ := walkLoop_fwd ne _ _ _ _ _ _ seen WInv.start rfl h
    have hS : walk e (s :: S) = seen := by
      show (match walkLoop e (s :: S).length true (e s).1 (s :: S) [] with | none => [] | some (h, seen) => if h = (e s).1 then seen else []) = _
      rw [h]; exact if_pos rfl
    rw [hS]
    intro z
    have := R1.len
    rw [z] at this
    simp at this
theorem ring_iff {S : List Nat} (nd : S.Nodup) (ne : ∀ t ∈ S, (e t).1 ≠ (e t).2) : walk e S ≠ [] ↔ IsRing e S := ⟨walk_ring nd ne, ring_walk nd ne⟩
theorem nd_le : ∀ {l m : List Nat}, l.Nodup → (∀ x ∈ l, x ∈ m) → l.length ≤ m.length
  | [], _, _, _ => Nat.zero_le _
  | a :: l, m, nd, h => by
    have ha := h a List.mem_cons_self
    have ⟨n1, n2⟩ := List.nodup_cons.mp nd
    have := nd_le (l := l) (m := m.erase a) n2 fun x hx => by
      have hxa : x ≠ a := fun z => n1 (z ▸ hx)
      exact (List.mem_erase_of_ne hxa).mpr (h x (List.mem_cons_of_mem _ hx))
    rw [List.length_erase_of_mem ha] at this
    have := List.length_pos_of_mem ha
    simp; omega
/-- a ring comes to all points just where it has as many ties -/
theorem round_iff {S : List Nat} (ne : ∀ t ∈ S, (e t).1 ≠ (e t).2) (h : walk e S ≠ []) {many : Nat} (hb : ∀ t ∈ S, (e t).1 < many ∧ (e t).2 < many) : (walk e S).length = many ↔ ∀ p, p < many → deg e S p = 2 := by
  obtain ⟨n1, n2, n3⟩ := walk_deg ne h
  have hsub : ∀ x ∈ walk e S, x ∈ List.range many := fun x hx => by
    have : 0 < deg e S x := by rw [n3]; have := List.count_pos_iff.mpr hx; omega
    obtain ⟨k, hk, hi⟩ := deg_ex this
    have := hb k hk
    rw [List.mem_range]
    rcases inc_iff.mp hi with q | q <;> omega
  constructor
  · intro hl p hp
    have : p ∈ walk e S := by
      apply Classical.byContradiction
      intro hn
      have := nd_le (l := p :: walk e S) (m := List.range many) (List.nodup_cons.mpr ⟨hn, n1⟩) fun x hx => by
        rcases List.mem_cons.mp hx with rfl | hx
        · exact List.mem_range.mpr hp
        · exact hsub x hx
      simp at this
      omega
    rw [n3]
    have h1 := List.count_pos_iff.mpr this
    have h2 := List.nodup_iff_count.mp n1 p
    omega
  · intro hd
    have h1 := nd_le n1 hsub
    have h2 := nd_le (l := List.range many) (m := walk e S) List.nodup_range fun x hx => by
      have h3 := hd x (List.mem_range.mp hx)
      rw [n3] at h3
      exact List.count_pos_iff.mp (by omega)
    simp at h1 h2
    omega
end
end Fw
end

section
/-! M2: the states of rings and rounds, tie by tie. Plain Lean. -/
set_option autoImplicit false
set_option linter.all false
namespace Fw

/-- a state: the mates, and whether the ring is closed -/
structure St where
  mates : List Int
  closed : Bool
  deriving DecidableEq

def gm (l : List Int) (p : Nat) : Int := l.getD p 0
theorem gm_set (l : List Int) (i : Nat) (v : Int) (p : Nat) : gm (l.set i v) p = if p = i ∧ i < l.length then v else gm l p := by
  unfold gm
  rw [List.getD_eq_getElem?_getD, List.getD_eq_getElem?_getD, List.getElem?_set]
  by_cases h : i = p
  · subst h
    by_cases h2 : i < l.length
    · simp [h2]
    · simp [h2]
  · simp [h, Ne.symm h]
def tiedM (l : List Int) (a b : Nat) : List Int := ((((l.set a (-1)).set b (-1)).set (gm l a).toNat (gm l b)).set (gm l b).toNat (gm l a))
def endedM (l : List Int) : Bool := (List.range l.length).all fun p => gm l p == -1 || gm l p == (p : Int)
def tookM (s : St) (a b : Nat) : Option St :=
  if s.closed = true ∨ gm s.mates a = -1 ∨ gm s.mates b = -1 then none
  else if gm s.mates a ≠ (b : Int) then some ⟨tiedM s.mates a b, false⟩
  else if endedM ((s.mates.set a (-1)).set b (-1)) then some ⟨(s.mates.set a (-1)).set b (-1), true⟩
  else none
def shutM (all : Bool) (s : St) (p : Nat) : Option St :=
  if all then (if gm s.mates p ≠ -1 then none else some s)
  else if gm s.mates p ≠ -1 ∧ gm s.mates p ≠ (p : Int) then none else some ⟨s.mates.set p (-1), s.closed⟩
def shutAllM (all : Bool) : Option St → List Nat → Option St
  | o, [] => o
  | o, p :: ps => shutAllM all (o.bind fun s => shutM all s p) ps
theorem shutAllM_none (all : Bool) : ∀ ps, shutAllM all none ps = none
  | [] => rfl
  | _ :: ps => shutAllM_none all ps
def stepM (all : Bool) (e : Nat → Nat × Nat) (last : Nat → List Nat) (s : St) (k : Nat) (taken : Bool) : Option St :=
  shutAllM all (if taken then tookM s (e k).1 (e k).2 else some s) (last k)
/-- what is so of an open or closed state, the ties U being taken and the points Z shut -/
structure Inv (all : Bool) (many : Nat) (e : Nat → Nat × Nat) (U : List Nat) (Z : Nat → Prop) (s : St) : Prop where
  len : s.mates.length = many
  cases : ∀ p, p < many → (gm s.mates p = -1 ∧ (deg e U p = 2 ∨ (all = false ∧ deg e U p = 0 ∧ Z p))) ∨ (gm s.mates p = p ∧ deg e U p = 0) ∨
    (s.closed = false ∧ ∃ q, q < many ∧ q ≠ p ∧ gm s.mates p = (q : Int) ∧ gm s.mates q = (p : Int) ∧ deg e U p = 1)
  zs : ∀ p, Z p → p < many → gm s.mates p = -1
  ring : s.closed = true → IsRing e U
  conn : s.closed = false → ∀ x, 0 < deg e U x → ∃ p, p < many ∧ deg e U p = 1 ∧ Conn e U x p
  mate : s.closed = false → ∀ p q : Nat, p < many → gm s.mates p = (q : Int) → Conn e U p q
  sep : s.closed = false → ∀ p, p < many → gm s.mates p ≠ -1 → ∃ χ, Const e U χ ∧ χ p = true ∧ ∀ x, x < many → gm s.mates x ≠ -1 → χ x = true → x = p ∨ gm s.mates p = (x : Int)

section
variable {all : Bool} {many : Nat} {e : Nat → Nat × Nat} {U : List Nat} {Z : Nat → Prop} {s s' : St}
theorem Inv.pt (I : Inv all many e U Z s) (hc : s.closed = false) {p : Nat} (hp : p < many) (h : gm s.mates p ≠ -1) :
    ∃ q, q < many ∧ gm s.mates p = (q : Int) ∧ gm s.mates q = (p : Int) ∧ ((q = p ∧ deg e U p = 0) ∨ (q ≠ p ∧ deg e U p = 1)) := by
  rcases I.cases p hp with ⟨z, _⟩ | ⟨z, d⟩ | ⟨_, q, hq, hne, h1, h2, d⟩
  · exact absurd z h
  · exact ⟨p, hp, z, z, .inl ⟨rfl, d⟩⟩
  · exact ⟨q, hq, h1, h2, .inr ⟨hne, d⟩⟩
theorem const_snoc {t : Nat} {χ : Nat → Bool} : Const e (U ++ [t]) χ ↔ Const e U χ ∧ χ (e t).1 = χ (e t).2 := by
  constructor
  · intro h
    exact ⟨fun x hx => h x (List.mem_append_left _ hx), h t (List.mem_append_right _ List.mem_cons_self)⟩
  · intro h x hx
    rcases List.mem_append.mp hx with z | z
    · exact h.1 x z
    · rw [List.mem_singleton.mp z]; exact h.2
theorem deg_snoc {t : Nat} (ne : (e t).1 ≠ (e t).2) (p : Nat) : deg e (U ++ [t]) p = deg e U p + (if p = (e t).1 then 1 else 0) + (if p = (e t).2 then 1 else 0) := by
  rw [deg_append]
  have : deg e [t] p = if inc e p t = true then 1 else 0 := by rw [deg_cons, deg_nil]; omega
  rw [this]
  simp only [inc_iff]
  split <;> split <;> split <;> omega
theorem tookM_cases {a b : Nat} (h : tookM s a b = some s') : s.closed = false ∧ gm s.mates a ≠ -1 ∧ gm s.mates b ≠ -1 ∧
    ((gm s.mates a ≠ (b : Int) ∧ s' = ⟨tiedM s.mates a b, false⟩) ∨ (gm s.mates a = (b : Int) ∧ endedM ((s.mates.set a (-1)).set b (-1)) = true ∧ s' = ⟨(s.mates.set a (-1)).set b (-1), true⟩)) := by
  unfold tookM at h
  by_cases h1 : s.closed = true ∨ gm s.mates a = -1 ∨ gm s.mates b = -1
  · rw [if_pos h1] at h; cases h
  · rw [if_neg h1] at h
    have c0 : s.closed = false := by
      cases q : s.closed with
      | true => exact absurd (.inl q) h1
      | false => rfl
    refine ⟨c0, fun z => h1 (.inr (.inl z)), fun z => h1 (.inr (.inr z)), ?_⟩
    by_cases h2 : gm s.mates a ≠ (b : Int)
    · rw [if_pos h2] at h
      exact .inl ⟨h2, (Option.some.inj h).symm⟩
    · rw [if_neg h2] at h
      by_cases h3 : endedM ((s.mates.set a (-1)).set b (-1)) = true
      · rw [if_pos h3] at h
        exact .inr ⟨Decidable.not_not.mp h2, h3, (Option.some.inj h).symm⟩
      · rw [if_neg h3] at h; cases h
theorem Inv.tied (I : Inv all many e U Z s) {t : Nat} (ne : (e t).1 ≠ (e t).2) (ha : (e t).1 < many) (hb : (e t).2 < many) (hc : s.closed = false)
    (na : gm s.mates (e t).1 ≠ -1) (nb : gm s.mates (e t).2 ≠ -1) (nab : gm s.mates (e t).1 ≠ ((e t).2 : Int)) :
    Inv all many e (U ++ [t]) Z ⟨tiedM s.mates (e t).1 (e t).2, false⟩ := by
  obtain ⟨f, hf, a1, a2, a3⟩ := I.pt hc ha na
  obtain ⟨l, hl, b1, b2, b3⟩ := I.pt hc hb nb
  generalize ea : (e t).1 = a at *
  generalize eb : (e t).2 = b at *
  have hfb : f ≠ b := fun z => nab (by rw [a1, z])
  have hla : l ≠ a := fun z => by subst z; rw [b2] at a1; omega
  have hfl : f ≠ l := fun z => by subst z; rw [a2] at b2; omega
  have G : ∀ p, gm (tiedM s.mates a b) p = if p = l then (f : Int) else if p = f then (l : Int) else if p = a ∨ p = b then -1 else gm s.mates p := by
    intro p
    unfold tiedM
    rw [a1, b1]
    simp only [gm_set, List.length_set, I.len, Int.toNat_natCast]
    by_cases h1 : p = l
    · simp [h1, hl]
    · by_cases h2 : p = f
      · simp [h2, hf, hfl]
      · by_cases h3 : p = b
        · subst h3; simp [h1, h2, hb]
        · by_cases h4 : p = a
          · subst h4; simp [h1, h2, h3, ha]
          · simp [h1, h2, h3, h4]
  have D : ∀ p, deg e (U ++ [t]) p = deg e U p + (if p = a then 1 else 0) + (if p = b then 1 else 0) := fun p => by
    have := deg_snoc (e := e) (U := U) (t := t) (by rw [ea, eb]; exact ne) p
    rw [ea, eb] at this; exact this
  have dl : deg e (U ++ [t]) l = 1 := by
    rw [D, if_neg hla]
    rcases b3 with ⟨z, d⟩ | ⟨z, d⟩
    · subst z; simp [d]
    · rw [if_neg z]
      obtain ⟨q, _, c1, c2, c3⟩ := I.pt hc hl (by rw [b2]; omega)
      rw [b2] at c1
      rcases c3 with ⟨y, d'⟩ | ⟨y, d'⟩ <;> omega
  have df : deg e (U ++ [t]) f = 1 := by
    rw [D, if_neg hfb]
    rcases a3 with ⟨z, d⟩ | ⟨z, d⟩
    · subst z; simp [d]
    · rw [if_neg z]
      obtain ⟨q, _, c1, c2, c3⟩ := I.pt hc hf (by rw [a2]; omega)
      rw [a2] at c1
      rcases c3 with ⟨y, d'⟩ | ⟨y, d'⟩ <;> omega
  have CU : ∀ χ, Const e (U ++ [t]) χ → Const e U χ ∧ χ a = χ b := fun χ h => by
    have := const_snoc.mp h; rw [ea, eb] at this; exact this
  have opn : ∀ p, p ≠ l → p ≠ f → gm (tiedM s.mates a b) p ≠ -1 → gm (tiedM s.mates a b) p = gm s.mates p ∧ p ≠ a ∧ p ≠ b := fun p h1 h2 h => by
    have g := G p
    rw [if_neg h1, if_neg h2] at g
    by_cases h3 : p = a ∨ p = b
    · rw [if_pos h3] at g; exact absurd g h
    · rw [if_neg h3] at g; exact ⟨g, fun z => h3 (.inl z), fun z => h3 (.inr z)⟩
  have opn' : ∀ p, gm (tiedM s.mates a b) p ≠ -1 → gm s.mates p ≠ -1 := fun p h => by
    by_cases h1 : p = l
    · rw [h1, b2]; omega
    · by_cases h2 : p = f
      · rw [h2, a2]; omega
      · rw [← (opn p h1 h2 h).1]; exact h
  refine ⟨?_, ?_, ?_, (fun h => nomatch h), fun _ => ?_, fun _ => ?_, fun _ => ?_⟩
  · show (tiedM s.mates a b).length = many
    unfold tiedM; simp [I.len]
  · intro p hp
    show (gm (tiedM s.mates a b) p = -1 ∧ _) ∨ (gm (tiedM s.mates a b) p = p ∧ _) ∨ (_ ∧ ∃ q, q < many ∧ q ≠ p ∧ gm (tiedM s.mates a b) p = (q : Int) ∧ gm (tiedM s.mates a b) q = (p : Int) ∧ _)
    by_cases h1 : p = l
    · subst h1
      exact .inr (.inr ⟨rfl, f, hf, hfl, by rw [G, if_pos rfl], by rw [G, if_neg hfl, if_pos rfl], dl⟩)
    · by_cases h2 : p = f
      · subst h2
        exact .inr (.inr ⟨rfl, l, hl, Ne.symm hfl, by rw [G, if_neg hfl, if_pos rfl], by rw [G, if_pos rfl], df⟩)
      · by_cases h3 : p = a
        · subst h3
          refine .inl ⟨by rw [G, if_neg h1, if_neg h2, if_pos (.inl rfl)], .inl ?_⟩
          rw [D, if_pos rfl, if_neg ne]
          rcases a3 with ⟨z, d⟩ | ⟨z, d⟩
          · exact absurd z.symm h2
          · omega
        · by_cases h4 : p = b
          · subst h4
            refine .inl ⟨by rw [G, if_neg h1, if_neg h2, if_pos (.inr rfl)], .inl ?_⟩
            rw [D, if_pos rfl, if_neg h3]
            rcases b3 with ⟨z, d⟩ | ⟨z, d⟩
            · exact absurd z.symm h1
            · omega
          · have hd : deg e (U ++ [t]) p = deg e U p := by rw [D, if_neg h3, if_neg h4]; rfl
            have hg : gm (tiedM s.mates a b) p = gm s.mates p := by rw [G, if_neg h1, if_neg h2, if_neg (by rintro (z | z); exact h3 z; exact h4 z)]
            rw [hd, hg]
            rcases I.cases p hp with c | c | ⟨_, q, hq, hne, c1, c2, d⟩
            · exact .inl c
            · exact .inr (.inl c)
            · refine .inr (.inr ⟨rfl, q, hq, hne, c1, ?_, d⟩)
              have q1 : q ≠ l := fun z => by subst z; rw [b2] at c2; omega
              have q2 : q ≠ f := fun z => by subst z; rw [a2] at c2; omega
              have q3 : q ≠ a := fun z => by subst z; rw [a1] at c2; omega
              have q4 : q ≠ b := fun z => by subst z; rw [b1] at c2; omega
              rw [G, if_neg q1, if_neg q2, if_neg (by rintro (z | z); exact q3 z; exact q4 z)]; exact c2
  · intro p hz hp
    show gm (tiedM s.mates a b) p = -1
    have h0 := I.zs p hz hp
    apply Classical.byContradiction
    intro h
    exact opn' p h h0
  · intro x hx
    have self : ∀ y, y = a ∨ y = b → ∃ p, p < many ∧ deg e (U ++ [t]) p = 1 ∧ Conn e (U ++ [t]) y p := by
      intro y hy
      refine ⟨f, hf, df, fun χ hχ => ?_⟩
      have ⟨k1, k2⟩ := CU χ hχ
      have := I.mate hc a f ha a1 χ k1
      rcases hy with rfl | rfl
      · exact this
      · rw [← k2]; exact this
    by_cases h0 : 0 < deg e U x
    · obtain ⟨p, hp, d1, cn⟩ := I.conn hc x h0
      by_cases h1 : p = a ∨ p = b
      · obtain ⟨p', hp', d', cn'⟩ := self p h1
        exact ⟨p', hp', d', fun χ hχ => (cn χ (CU χ hχ).1).trans (cn' χ hχ)⟩
      · refine ⟨p, hp, ?_, fun χ hχ => cn χ (CU χ hχ).1⟩
        rw [D, if_neg (fun z => h1 (.inl z)), if_neg (fun z => h1 (.inr z))]; exact d1
    · rw [D] at hx
      refine self x ?_
      apply Classical.byContradiction
      intro h1
      rw [if_neg (fun z => h1 (.inl z)), if_neg (fun z => h1 (.inr z))] at hx
      omega
  · intro p q hp hq χ hχ
    have ⟨k1, k2⟩ := CU χ hχ
    replace hq : gm (tiedM s.mates a b) p = (q : Int) := hq
    have ma := I.mate hc a f ha a1 χ k1
    have mb := I.mate hc b l hb b1 χ k1
    by_cases h1 : p = l
    · subst h1
      rw [G, if_pos rfl] at hq
      have : q = f := by omega
      rw [this, ← ma, ← mb, k2]
    · by_cases h2 : p = f
      · subst h2
        rw [G, if_neg h1, if_pos rfl] at hq
        have : q = l := by omega
        rw [this, ← ma, ← mb, k2]
      · have := (opn p h1 h2 (by rw [hq]; omega)).1
        exact I.mate hc p q hp (by rw [← this]; exact hq) χ k1
  · intro p hp hop
    replace hop : gm (tiedM s.mates a b) p ≠ -1 := hop
    show ∃ χ, Const e (U ++ [t]) χ ∧ χ p = true ∧ ∀ x, x < many → gm (tiedM s.mates a b) x ≠ -1 → χ x = true → x = p ∨ gm (tiedM s.mates a b) p = (x : Int)
    obtain ⟨χa, xa1, xa2, xa3⟩ := I.sep hc a ha na
    obtain ⟨χb, xb1, xb2, xb3⟩ := I.sep hc b hb nb
    by_cases hpl : p = l ∨ p = f
    · refine ⟨fun x => χa x || χb x, const_snoc.mpr ⟨fun x hx => by simp only [xa1 x hx, xb1 x hx], by rw [ea, eb, xa2, xb2]; simp⟩, ?_, ?_⟩
      · have ma := I.mate hc a f ha a1 χa xa1
        have mb := I.mate hc b l hb b1 χb xb1
        rcases hpl with rfl | rfl
        · show (χa p || χb p) = true
          rw [← mb, xb2]; simp
        · show (χa p || χb p) = true
          rw [← ma, xa2]; simp
      · intro x hx hox hχ
        have hx' : x = f ∨ x = l := by
          apply Classical.byContradiction
          intro hn
          have n1 : x ≠ l := fun z => hn (.inr z)
          have n2 : x ≠ f := fun z => hn (.inl z)
          obtain ⟨_, n3, n4⟩ := opn x n1 n2 hox
          rcases Bool.or_eq_true_iff.mp hχ with z | z
          · rcases xa3 x hx (opn' x hox) z with y | y
            · exact n3 y
            · rw [a1] at y; omega
          · rcases xb3 x hx (opn' x hox) z with y | y
            · exact n4 y
            · rw [b1] at y; omega
        rcases hpl with rfl | rfl
        · rcases hx' with rfl | rfl
          · right; rw [G, if_pos rfl]
          · left; rfl
        · rcases hx' with rfl | rfl
          · left; rfl
          · right; rw [G, if_neg hfl, if_pos rfl]
    · have p1 : p ≠ l := fun z => hpl (.inl z)
      have p2 : p ≠ f := fun z => hpl (.inr z)
      obtain ⟨pg, p3, p4⟩ := opn p p1 p2 hop
      obtain ⟨χ, c1, c2, c3⟩ := I.sep hc p hp (opn' p hop)
      have fa : χ a = false := by
        cases q : χ a with
        | false => rfl
        | true =>
          rcases c3 a ha na q with y | y
          · exact absurd y.symm p3
          · obtain ⟨r, _, r1, r2, _⟩ := I.pt hc hp (opn' p hop)
            rw [y] at r1
            have : r = a := by omega
            rw [this, a1] at r2
            omega
      have fb : χ b = false := by
        cases q : χ b with
        | false => rfl
        | true =>
          rcases c3 b hb nb q with y | y
          · exact absurd y.symm p4
          · obtain ⟨r, _, r1, r2, _⟩ := I.pt hc hp (opn' p hop)
            rw [y] at r1
            have : r = b := by omega
            rw [this, b1] at r2
            omega
      refine ⟨χ, const_snoc.mpr ⟨c1, by rw [ea, eb, fa, fb]⟩, c2, fun x hx hox hχ => ?_⟩
      rw [pg]
      exact c3 x hx (opn' x hox) hχ
theorem endedM_iff {l : List Int} : endedM l = true ↔ ∀ p, p < l.length → gm l p = -1 ∨ gm l p = (p : Int) := by
  unfold endedM
  rw [List.all_eq_true]
  constructor
  · intro h p hp
    have := h p (List.mem_range.mpr hp)
    simpa using this
  · intro h p hp
    have := h p (List.mem_range.mp hp)
    simpa using this
theorem Inv.close (I : Inv all many e U Z s) {t : Nat} (nd : (U ++ [t]).Nodup) (ne : (e t).1 ≠ (e t).2) (ha : (e t).1 < many) (hb : (e t).2 < many) (hbnd : ∀ k ∈ U, (e k).1 < many ∧ (e k).2 < many) (hc : s.closed = false)
    (nab : gm s.mates (e t).1 = ((e t).2 : Int)) (en : endedM ((s.mates.set (e t).1 (-1)).set (e t).2 (-1)) = true) :
    Inv all many e (U ++ [t]) Z ⟨(s.mates.set (e t).1 (-1)).set (e t).2 (-1), true⟩ := by
  obtain ⟨f, hf, a1, a2, a3⟩ := I.pt hc ha (by rw [nab]; omega)
  have hfb : f = (e t).2 := by omega
  subst hfb
  have da : deg e U (e t).1 = 1 := by rcases a3 with ⟨z, d⟩ | ⟨z, d⟩; exact absurd z.symm ne; exact d
  have db : deg e U (e t).2 = 1 := by
    obtain ⟨q, _, c1, c2, c3⟩ := I.pt hc hb (by rw [a2]; omega)
    rw [a2] at c1
    rcases c3 with ⟨y, d'⟩ | ⟨y, d'⟩
    · omega
    · exact d'
  generalize ea : (e t).1 = a at *
  generalize eb : (e t).2 = b at *
  have G : ∀ p, gm ((s.mates.set a (-1)).set b (-1)) p = if p = a ∨ p = b then -1 else gm s.mates p := by
    intro p
    simp only [gm_set, List.length_set, I.len]
    by_cases h3 : p = b
    · simp [h3, hb]
    · by_cases h4 : p = a
      · simp [h4, ha]
      · simp [h3, h4]
  have D : ∀ p, deg e (U ++ [t]) p = deg e U p + (if p = a then 1 else 0) + (if p = b then 1 else 0) := fun p => by
    have := deg_snoc (e := e) (U := U) (t := t) (by rw [ea, eb]; exact ne) p
    rw [ea, eb] at this; exact this
  have E := endedM_iff.mp en
  have E' : ∀ p, p < many → p ≠ a → p ≠ b → gm s.mates p = -1 ∨ gm s.mates p = (p : Int) := fun p hp h1 h2 => by
    have := E p (by simp [I.len, hp])
    rw [G, if_neg (by rintro (z | z); exact h1 z; exact h2 z)] at this
    exact this
  have C : ∀ p, p < many → (gm ((s.mates.set a (-1)).set b (-1)) p = -1 ∧ (deg e (U ++ [t]) p = 2 ∨ (all = false ∧ deg e (U ++ [t]) p = 0 ∧ Z p))) ∨ (gm ((s.mates.set a (-1)).set b (-1)) p = p ∧ deg e (U ++ [t]) p = 0) := by
    intro p hp
    by_cases h1 : p = a
    · subst h1
      refine .inl ⟨by rw [G, if_pos (.inl rfl)], .inl ?_⟩
      rw [D, if_pos rfl, if_neg ne, da]
    · by_cases h2 : p = b
      · subst h2
        refine .inl ⟨by rw [G, if_pos (.inr rfl)], .inl ?_⟩
        rw [D, if_pos rfl, if_neg h1, db]
      · have hd : deg e (U ++ [t]) p = deg e U p := by rw [D, if_neg h1, if_neg h2]; rfl
        rw [G, if_neg (by rintro (z | z); exact h1 z; exact h2 z), hd]
        rcases I.cases p hp with c | c | ⟨_, q, hq, hne, c1, c2, d⟩
        · exact .inl c
        · exact .inr c
        · rcases E' p hp h1 h2 with z | z
          · rw [c1] at z; omega
          · rw [c1] at z; omega
  have big : ∀ p, ¬ p < many → deg e (U ++ [t]) p = 0 := fun p hp => by
    apply Classical.byContradiction
    intro h
    obtain ⟨k, hk, hi⟩ := deg_ex (e := e) (S := U ++ [t]) (p := p) (by omega)
    rcases List.mem_append.mp hk with z | z
    · have := hbnd k z
      rcases inc_iff.mp hi with q | q <;> omega
    · rw [List.mem_singleton.mp z] at hi
      rcases inc_iff.mp hi with q | q <;> omega
  refine ⟨by simp [I.len], fun p hp => ?_, fun p hz hp => ?_, fun _ => ?_, (fun h => nomatch h), (fun h => nomatch h), (fun h => nomatch h)⟩
  · rcases C p hp with c | c
    · exact .inl c
    · exact .inr (.inl c)
  · show gm ((s.mates.set a (-1)).set b (-1)) p = -1
    rw [G]
    split
    · rfl
    · exact I.zs p hz hp
  · refine least_of nd (fun p => ?_) (by simp) ⟨a, fun χ hχ x hx => ?_⟩
    · by_cases hp : p < many
      · rcases C p hp with ⟨_, c | c⟩ | c
        · exact .inr c
        · exact .inl c.2.1
        · exact .inl c.2
      · exact .inl (big p hp)
    · have k := const_snoc.mp hχ
      rw [ea, eb] at k
      by_cases h1 : x = a
      · rw [h1]
      · by_cases h2 : x = b
        · rw [h2]; exact k.2.symm
        · rw [D, if_neg h1, if_neg h2] at hx
          obtain ⟨p, hp, d, cn⟩ := I.conn hc x hx
          rw [cn χ k.1]
          by_cases h3 : p = a
          · rw [h3]
          · by_cases h4 : p = b
            · rw [h4]; exact k.2.symm
            · exfalso
              obtain h := E' p hp h3 h4
              rcases I.cases p hp with ⟨_, c | c⟩ | c | ⟨_, q, hq, hne, c1, c2, d⟩
              · omega
              · omega
              · omega
              · rw [c1] at h; omega
theorem Inv.took (I : Inv all many e U Z s) {t : Nat} (nd : (U ++ [t]).Nodup) (ne : (e t).1 ≠ (e t).2) (ha : (e t).1 < many) (hb : (e t).2 < many) (hbnd : ∀ k ∈ U, (e k).1 < many ∧ (e k).2 < many)
    (h : tookM s (e t).1 (e t).2 = some s') : Inv all many e (U ++ [t]) Z s' := by
  obtain ⟨hc, na, nb, ⟨z, rfl⟩ | ⟨z, en, rfl⟩⟩ := tookM_cases h
  · exact I.tied ne ha hb hc na nb z
  · exact I.close nd ne ha hb hbnd hc z en
theorem Inv.shut (I : Inv all many e U Z s) {p : Nat} (h : shutM all s p = some s') : Inv all many e U (fun x => Z x ∨ x = p) s' := by
  unfold shutM at h
  cases all with
  | true =>
    rw [if_pos rfl] at h
    by_cases h1 : gm s.mates p ≠ -1
    · rw [if_pos h1] at h; cases h
    · rw [if_neg h1] at h
      cases h
      refine ⟨I.len, fun q hq => ?_, fun q hz hq => ?_, I.ring, I.conn, I.mate, I.sep⟩
      · rcases I.cases q hq with ⟨c, c' | c'⟩ | c | c
        · exact .inl ⟨c, .inl c'⟩
        · exact absurd c'.1 (by simp)
        · exact .inr (.inl c)
        · exact .inr (.inr c)
      · rcases hz with z | rfl
        · exact I.zs q z hq
        · exact Decidable.not_not.mp h1
  | false =>
    rw [if_neg (by simp)] at h
    by_cases h1 : gm s.mates p ≠ -1 ∧ gm s.mates p ≠ (p : Int)
    · rw [if_pos h1] at h; cases h
    · rw [if_neg h1] at h
      cases h
      have hp1 : gm s.mates p = -1 ∨ gm s.mates p = (p : Int) := by omega
      have G : ∀ q, q < many → gm (s.mates.set p (-1)) q = if q = p then -1 else gm s.mates q := by
        intro q hq
        rw [gm_set]
        by_cases z : q = p
        · subst z; simp [I.len, hq]
        · simp [z]
      have opn' : ∀ q, q < many → gm (s.mates.set p (-1)) q ≠ -1 → q ≠ p ∧ gm s.mates q ≠ -1 := fun q hq h => by
        rw [G q hq] at h
        by_cases z : q = p
        · rw [if_pos z] at h; exact absurd rfl h
        · rw [if_neg z] at h; exact ⟨z, h⟩
      refine ⟨by simp [I.len], fun q hq => ?_, fun q hz hq => ?_, I.ring, I.conn, fun hc q r hq hr => ?_, fun hc q hq ho => ?_⟩
      · show (gm (s.mates.set p (-1)) q = -1 ∧ _) ∨ (gm (s.mates.set p (-1)) q = q ∧ _) ∨ (_ ∧ ∃ r, r < many ∧ r ≠ q ∧ gm (s.mates.set p (-1)) q = (r : Int) ∧ gm (s.mates.set p (-1)) r = (q : Int) ∧ _)
        by_cases z : q = p
        · rw [G q hq, if_pos z]
          rcases I.cases q hq with ⟨c, c' | ⟨c1, c2, c3⟩⟩ | ⟨c, c'⟩ | ⟨_, r, hr, hne, c1, c2, d⟩
          · exact .inl ⟨rfl, .inl c'⟩
          · exact .inl ⟨rfl, .inr ⟨c1, c2, .inl c3⟩⟩
          · exact .inl ⟨rfl, .inr ⟨rfl, c', .inr z⟩⟩
          · rw [z] at c1 hne; omega
        · rw [G q hq, if_neg z]
          rcases I.cases q hq with ⟨c, c' | ⟨c1, c2, c3⟩⟩ | c | ⟨c0, r, hr, hne, c1, c2, d⟩
          · exact .inl ⟨c, .inl c'⟩
          · exact .inl ⟨c, .inr ⟨c1, c2, .inl c3⟩⟩
          · exact .inr (.inl c)
          · refine .inr (.inr ⟨c0, r, hr, hne, c1, ?_, d⟩)
            have : r ≠ p := fun y => by subst y; rw [c2] at hp1; omega
            rw [G r hr, if_neg this]; exact c2
      · show gm (s.mates.set p (-1)) q = -1
        rw [G q hq]
        split
        · rfl
        · rename_i hn
          rcases hz with z | z
          · exact I.zs q z hq
          · exact absurd z hn
      · replace hr : gm (s.mates.set p (-1)) q = (r : Int) := hr
        obtain ⟨z1, z2⟩ := opn' q hq (by rw [hr]; omega)
        rw [G q hq, if_neg z1] at hr
        exact I.mate hc q r hq hr
      · replace ho : gm (s.mates.set p (-1)) q ≠ -1 := ho
        show ∃ χ, Const e U χ ∧ χ q = true ∧ ∀ x, x < many → gm (s.mates.set p (-1)) x ≠ -1 → χ x = true → x = q ∨ gm (s.mates.set p (-1)) q = (x : Int)
        obtain ⟨z1, z2⟩ := opn' q hq ho
        obtain ⟨χ, c1, c2, c3⟩ := I.sep hc q hq z2
        refine ⟨χ, c1, c2, fun x hx hox hχ => ?_⟩
        rw [G q hq, if_neg z1]
        exact c3 x hx (opn' x hx hox).2 hχ
theorem Inv.congrZ {Z' : Nat → Prop} (I : Inv all many e U Z s) (h : ∀ x, x < many → (Z x ↔ Z' x)) : Inv all many e U Z' s :=
  ⟨I.len, fun p hp => by
    rcases I.cases p hp with ⟨c, c' | ⟨c1, c2, c3⟩⟩ | c | c
    · exact .inl ⟨c, .inl c'⟩
    · exact .inl ⟨c, .inr ⟨c1, c2, (h p hp).mp c3⟩⟩
    · exact .inr (.inl c)
    · exact .inr (.inr c), fun p z hp => I.zs p ((h p hp).mpr z) hp, I.ring, I.conn, I.mate, I.sep⟩
theorem Inv.shutAll : ∀ {ps : List Nat} {Z : Nat → Prop} {s s' : St}, Inv all many e U Z s → shutAllM all (some s) ps = some s' → Inv all many e U (fun x => Z x ∨ x ∈ ps) s'
  | [], Z, s, s', I, h => by
    cases h
    exact I.congrZ fun x _ => by simp
  | p :: ps, Z, s, s', I, h => by
    have h' : shutAllM all (shutM all s p) ps = some s' := h
    cases q : shutM all s p with
    | none => rw [q, shutAllM_none] at h'; cases h'
    | some s1 =>
      rw [q] at h'
      exact (Inv.shutAll (I.shut q) h').congrZ fun x _ => by simp [or_assoc]
/-! ### no set that is a ring is refused -/
theorem Inv.no_refuse (I : Inv all many e U Z s) {S : List Nat} {t : Nat} (R : IsRing e S) (nd : (U ++ [t]).Nodup) (sub : (U ++ [t]).Sublist S) (ne : (e t).1 ≠ (e t).2) (ha : (e t).1 < many) (hb : (e t).2 < many)
    (hbnd : ∀ k ∈ U, (e k).1 < many ∧ (e k).2 < many) (hz : ¬ Z (e t).1 ∧ ¬ Z (e t).2) : tookM s (e t).1 (e t).2 ≠ none := by
  have subU : U.Sublist S := (List.sublist_append_left U [t]).trans sub
  have tU : t ∉ U := fun z => by
    rw [List.nodup_append] at nd
    exact nd.2.2 t z t (by simp) rfl
  have tS : t ∈ S := sub.subset (by simp)
  have hdeg : ∀ p, deg e (U ++ [t]) p ≤ 2 := fun p => by
    have := deg_sub (e := e) sub p
    rcases R.2.1 p with q | q <;> omega
  have D := deg_snoc (e := e) (U := U) (t := t) ne
  have hcl : s.closed = false := by
    cases q : s.closed with
    | false => rfl
    | true =>
      have RU := I.ring q
      have := R.2.2 U subU RU.1 RU.2.1
      exact absurd (this ▸ tS) tU
  have open_ : ∀ p, p < many → p = (e t).1 ∨ p = (e t).2 → gm s.mates p ≠ -1 := fun p hp hpe z => by
    rcases I.cases p hp with ⟨_, c | ⟨_, _, c⟩⟩ | ⟨c, _⟩ | ⟨_, q, _, _, c, _⟩
    · have h1 := hdeg p
      rw [D] at h1
      rcases hpe with y | y <;> rw [if_pos y] at h1 <;> omega
    · rcases hpe with y | y
      · exact hz.1 (y ▸ c)
      · exact hz.2 (y ▸ c)
    · omega
    · omega
  have na := open_ _ ha (.inl rfl)
  have nb := open_ _ hb (.inr rfl)
  unfold tookM
  rw [if_neg (by rintro (z | z | z); rw [hcl] at z; cases z; exact na z; exact nb z)]
  by_cases nab : gm s.mates (e t).1 ≠ ((e t).2 : Int)
  · rw [if_pos nab]; simp
  · rw [if_neg nab]
    have nab' := Decidable.not_not.mp nab
    by_cases en : endedM ((s.mates.set (e t).1 (-1)).set (e t).2 (-1)) = true
    · rw [if_pos en]; simp
    · exfalso
      obtain ⟨χ, c1, c2, c3⟩ := I.sep hcl _ ha na
      have cb : χ (e t).2 = true := by rw [← I.mate hcl _ _ ha nab' χ c1]; exact c2
      -- the component of the new tie
      have hin : ∀ k ∈ U ++ [t], χ (e k).1 = χ (e k).2 := const_snoc.mpr ⟨c1, by rw [c2, cb]⟩
      have dT : ∀ (L : List Nat), (∀ k ∈ L, χ (e k).1 = χ (e k).2) → ∀ p, deg e (L.filter fun k => χ (e k).1) p = if χ p = true then deg e L p else 0 := by
        intro L
        induction L with
        | nil => intro _ p; simp [deg_nil]
        | cons k L ih =>
          intro hL p
          have ih' := ih (fun x hx => hL x (List.mem_cons_of_mem _ hx)) p
          have hk := hL k List.mem_cons_self
          by_cases hq : χ (e k).1 = true
          · rw [List.filter_cons_of_pos (p := fun k => χ (e k).1) hq, deg_cons, deg_cons, ih']
            by_cases hp : χ p = true
            · rw [if_pos hp, if_pos hp]
            · rw [if_neg hp, if_neg hp, if_neg]
              intro hi
              rcases inc_iff.mp hi with y | y
              · rw [← y] at hp; exact hp hq
              · rw [← y, ← hk] at hp; exact hp hq
          · rw [List.filter_cons_of_neg (p := fun k => χ (e k).1) hq, deg_cons, ih']
            by_cases hp : χ p = true
            · rw [if_pos hp, if_pos hp]
              have : ¬ inc e p k = true := by
                intro hi
                rcases inc_iff.mp hi with y | y
                · rw [y] at hq; exact hq hp
                · rw [hk, y] at hq; exact hq hp
              rw [if_neg this]; rfl
            · rw [if_neg hp, if_neg hp]
      have dT' := dT _ hin
      have eT : ((U ++ [t]).filter fun k => χ (e k).1) = S := by
        refine R.2.2 _ (List.filter_sublist.trans sub) (fun z => ?_) fun p => ?_
        · have : t ∈ (U ++ [t]).filter fun k => χ (e k).1 := List.mem_filter.mpr ⟨by simp, c2⟩
          rw [z] at this; cases this
        · rw [dT']
          by_cases hp : χ p = true
          · rw [if_pos hp]
            by_cases hpm : p < many
            · rcases I.cases p hpm with ⟨_, c | ⟨_, c, _⟩⟩ | ⟨_, c⟩ | ⟨_, q, _, _, c, _, c'⟩
              · have := hdeg p; rw [D] at this ⊢; omega
              · rw [D, c]
                by_cases y1 : p = (e t).1
                · have := open_ p hpm (.inl y1); omega
                · by_cases y2 : p = (e t).2
                  · have := open_ p hpm (.inr y2); omega
                  · rw [if_neg y1, if_neg y2]; omega
              · rw [D, c]
                by_cases y1 : p = (e t).1
                · exfalso
                  obtain ⟨q, _, q1, _, q2⟩ := I.pt hcl ha na
                  rw [y1] at c
                  rcases q2 with ⟨q3, _⟩ | ⟨_, q3⟩
                  · rw [q3] at q1; omega
                  · omega
                · by_cases y2 : p = (e t).2
                  · exfalso
                    obtain ⟨q, _, q1, q4, q2⟩ := I.pt hcl ha na
                    have : q = (e t).2 := by omega
                    rw [this] at q4
                    obtain ⟨r, _, r1, _, r2⟩ := I.pt hcl hb nb
                    rw [q4] at r1
                    rw [y2] at c
                    rcases r2 with ⟨r3, _⟩ | ⟨_, r3⟩ <;> omega
                  · rw [if_neg y1, if_neg y2]; omega
              · have ho : gm s.mates p ≠ -1 := by rw [c]; omega
                have : p = (e t).1 ∨ p = (e t).2 := by
                  rcases c3 p hpm ho hp with y | y
                  · exact .inl y
                  · right; omega
                rw [D, c']
                rcases this with y | y
                · rw [if_pos y, if_neg (fun z => ne (y.symm.trans z))]; omega
                · rw [if_neg (fun z => ne (z.symm.trans y)), if_pos y]; omega
            · left
              apply Classical.byContradiction
              intro h
              obtain ⟨k, hk, hi⟩ := deg_ex (e := e) (S := U ++ [t]) (p := p) (by omega)
              rcases List.mem_append.mp hk with z | z
              · have := hbnd k z
                rcases inc_iff.mp hi with q | q <;> omega
              · rw [List.mem_singleton.mp z] at hi
                rcases inc_iff.mp hi with q | q <;> omega
          · rw [if_neg hp]; exact .inl rfl
      apply en
      rw [endedM_iff]
      intro p hp
      have hpm : p < many := by simpa [I.len] using hp
      have G : gm ((s.mates.set (e t).1 (-1)).set (e t).2 (-1)) p = if p = (e t).1 ∨ p = (e t).2 then -1 else gm s.mates p := by
        simp only [gm_set, List.length_set, I.len]
        by_cases h3 : p = (e t).2
        · simp [h3, hb]
        · by_cases h4 : p = (e t).1
          · simp [h4, ha]
          · simp [h3, h4]
      rw [G]
      by_cases hpe : p = (e t).1 ∨ p = (e t).2
      · rw [if_pos hpe]; exact .inl rfl
      · rw [if_neg hpe]
        rcases I.cases p hpm with ⟨c, _⟩ | ⟨c, _⟩ | ⟨_, q, _, _, c, _, c'⟩
        · exact .inl c
        · exact .inr c
        · exfalso
          have ho : gm s.mates p ≠ -1 := by rw [c]; omega
          have hχ : ¬ χ p = true := fun y => by
            rcases c3 p hpm ho y with z | z
            · exact hpe (.inl z)
            · exact hpe (.inr (by omega))
          have h1 := dT' p
          rw [if_neg hχ, eT] at h1
          have h2 := deg_sub (e := e) subU p
          omega
theorem Inv.no_shut (I : Inv all many e U Z s) {p : Nat} (hp : p < many) (h : deg e U p = 2 ∨ (all = false ∧ deg e U p = 0)) : shutM all s p ≠ none := by
  have key : gm s.mates p = -1 ∨ (all = false ∧ gm s.mates p = (p : Int)) := by
    rcases I.cases p hp with ⟨c, _⟩ | ⟨c, c'⟩ | ⟨_, q, _, _, _, _, c'⟩
    · exact .inl c
    · rcases h with z | z
      · omega
      · exact .inr ⟨z.1, c⟩
    · rcases h with z | z <;> omega
  unfold shutM
  cases all with
  | true =>
    rw [if_pos rfl]
    rcases key with z | ⟨z, _⟩
    · rw [if_neg (fun y => y z)]; simp
    · cases z
  | false =>
    rw [if_neg (by simp), if_neg]
    · simp
    · rcases key with z | ⟨_, z⟩
      · exact fun y => y.1 z
      · exact fun y => y.2 z
theorem Inv.no_shutAll : ∀ {ps : List Nat} {Z : Nat → Prop} {s : St}, Inv all many e U Z s → (∀ p ∈ ps, p < many ∧ (deg e U p = 2 ∨ (all = false ∧ deg e U p = 0))) → shutAllM all (some s) ps ≠ none
  | [], _, _, _, _ => by simp [shutAllM]
  | p :: ps, Z, s, I, h => by
    have h1 := h p List.mem_cons_self
    have h2 := I.no_shut h1.1 h1.2
    show shutAllM all (shutM all s p) ps ≠ none
    cases q : shutM all s p with
    | none => exact absurd q h2
    | some s1 => exact Inv.no_shutAll (I.shut q) fun x hx => h x (List.mem_cons_of_mem _ hx)
end
end Fw
end

section
/-! M3: runs over all ties, all sets in order, and what a run over rings finds. Plain Lean. -/
set_option autoImplicit false
set_option linter.all false
namespace Fw

/-! ### any states -/
section
variable {σ : Type} (step : σ → Nat → Bool → Option σ) (good : σ → Bool)
def run (f : Nat → Bool) : Option σ → Nat → Nat → Option σ
  | o, _, 0 => o
  | o, k, m + 1 => run f (o.bind fun s => step s k (f k)) (k + 1) m
def acc (f : Nat → Bool) (o : Option σ) (k m : Nat) : Bool := match run step f o k m with | none => false | some s => good s
def lang : Option σ → Nat → Nat → List (List Nat)
  | none, _, _ => []
  | some s, _, 0 => if good s then [[]] else []
  | some s, k, m + 1 => lang (step s k false) (k + 1) m ++ (lang (step s k true) (k + 1) m).map (k :: ·)
end
def subs : Nat → Nat → List (List Nat)
  | _, 0 => [[]]
  | k, m + 1 => subs (k + 1) m ++ (subs (k + 1) m).map (k :: ·)

theorem mem_subs : ∀ {m k : Nat} {X : List Nat}, X ∈ subs k m ↔ X.Pairwise (· < ·) ∧ ∀ x ∈ X, k ≤ x ∧ x < k + m
  | 0, k, X => by
    simp only [subs, List.mem_singleton]
    constructor
    · rintro rfl; simp
    · rintro ⟨_, h⟩
      cases X with
      | nil => rfl
      | cons x X => have := h x List.mem_cons_self; omega
  | m + 1, k, X => by
    simp only [subs, List.mem_append, List.mem_map]
    constructor
    · rintro (h | ⟨Y, h, rfl⟩)
      · have ⟨h1, h2⟩ := mem_subs.mp h
        exact ⟨h1, fun x hx => by have := h2 x hx; omega⟩
      · have ⟨h1, h2⟩ := mem_subs.mp h
        refine ⟨List.pairwise_cons.mpr ⟨fun y hy => by have := h2 y hy; omega, h1⟩, fun x hx => ?_⟩
        rcases List.mem_cons.mp hx with rfl | hx
        · omega
        · have := h2 x hx; omega
    · rintro ⟨h1, h2⟩
      cases X with
      | nil => exact .inl (mem_subs.mpr ⟨h1, fun x hx => nomatch hx⟩)
      | cons x X =>
        have ⟨p1, p2⟩ := List.pairwise_cons.mp h1
        have hx := h2 x List.mem_cons_self
        by_cases e : x = k
        · subst e
          exact .inr ⟨X, mem_subs.mpr ⟨p2, fun y hy => by have := p1 y hy; have := h2 y (List.mem_cons_of_mem _ hy); omega⟩, rfl⟩
        · refine .inl (mem_subs.mpr ⟨h1, fun y hy => ?_⟩)
          have := h2 y hy
          rcases List.mem_cons.mp hy with rfl | hy
          · omega
          · have := p1 y hy; omega
theorem subs_len : ∀ (m k : Nat), (subs k m).length = 2 ^ m
  | 0, _ => rfl
  | m + 1, k => by simp only [subs, List.length_append, List.length_map, subs_len m, Nat.pow_succ]; omega
section
variable {σ : Type} {step : σ → Nat → Bool → Option σ} {good : σ → Bool}
theorem run_none (f : Nat → Bool) : ∀ (m k : Nat), run step f none k m = none
  | 0, _ => rfl
  | m + 1, k => run_none f m (k + 1)
theorem acc_none (f : Nat → Bool) (m k : Nat) : acc step good f none k m = false := by unfold acc; rw [run_none]
theorem run_congr {f g : Nat → Bool} : ∀ (m k : Nat) (o : Option σ), (∀ j, k ≤ j → f j = g j) → run step f o k m = run step g o k m
  | 0, _, _, _ => rfl
  | m + 1, k, o, h => by
    unfold run
    rw [h k (Nat.le_refl k), run_congr m (k + 1) _ fun j hj => h j (by omega)]
theorem lang_none (k m : Nat) : lang step good none k m = [] := by cases m <;> rfl
theorem lang_eq : ∀ (m k : Nat) (o : Option σ), lang step good o k m = (subs k m).filter fun X => acc step good (fun j => X.contains j) o k m
  | m, k, none => by
    rw [lang_none]
    symm
    rw [List.filter_eq_nil_iff]
    intro X _
    rw [acc_none]; simp
  | 0, k, some s => by
    unfold lang
    show _ = [[]].filter _
    rw [List.filter_cons]
    rfl
  | m + 1, k, some s => by
    unfold lang subs
    rw [List.filter_append, lang_eq m (k + 1), lang_eq m (k + 1), List.filter_map]
    congr 1
    · apply List.filter_congr
      intro X hX
      have : X.contains k = false := by
        have h := (mem_subs.mp hX).2
        rw [List.contains_eq_mem]
        exact decide_eq_false fun z => by have := h k z; omega
      show _ = acc step good _ (some s) k (m + 1)
      unfold acc
      show _ = (match run step (fun j => X.contains j) (step s k (X.contains k)) (k + 1) m with | none => false | some s => good s)
      rw [this]
    · congr 1
      apply List.filter_congr
      intro X hX
      show _ = acc step good _ (some s) k (m + 1)
      unfold acc
      show _ = (match run step (fun j => (k :: X).contains j) (step s k ((k :: X).contains k)) (k + 1) m with | none => false | some s => good s)
      have h1 : (k :: X).contains k = true := by simp
      rw [h1, run_congr m (k + 1) _ fun j hj => ?_]
      have : j ≠ k := by omega
      simp [this]
theorem lang_sub {o : Option σ} {k m : Nat} {X : List Nat} (h : X ∈ lang step good o k m) : X.Pairwise (· < ·) ∧ ∀ x ∈ X, k ≤ x ∧ x < k + m := by
  rw [lang_eq] at h
  exact mem_subs.mp (List.mem_filter.mp h).1
theorem mem_lang {o : Option σ} {k m : Nat} {X : List Nat} (h1 : X.Pairwise (· < ·)) (h2 : ∀ x ∈ X, k ≤ x ∧ x < k + m) : X ∈ lang step good o k m ↔ acc step good (fun j => X.contains j) o k m = true := by
  rw [lang_eq, List.mem_filter]
  exact ⟨fun h => h.2, fun h => ⟨mem_subs.mpr ⟨h1, h2⟩, h⟩⟩
theorem lang_len (o : Option σ) (k m : Nat) : (lang step good o k m).length ≤ 2 ^ m := by
  rw [lang_eq, ← subs_len m k]
  exact List.length_filter_le _ _
end
/-! ### runs of rings and rounds -/
def pre (S : List Nat) (k : Nat) : List Nat := S.filter fun t => decide (t < k)
theorem pre_sub (S : List Nat) (k : Nat) : (pre S k).Sublist S := List.filter_sublist
theorem pre_zero (S : List Nat) : pre S 0 = [] := by
  unfold pre; rw [List.filter_eq_nil_iff]; intro x _; simp
theorem pre_all {S : List Nat} {n : Nat} (h : ∀ x ∈ S, x < n) : pre S n = S := by
  unfold pre; rw [List.filter_eq_self]; intro x hx; simp [h x hx]
theorem pre_succ : ∀ {S : List Nat} (h : S.Pairwise (· < ·)) (k : Nat), pre S (k + 1) = pre S k ++ (if S.contains k then [k] else [])
  | [], _, k => by simp [pre]
  | x :: S, h, k => by
    have ⟨h1, h2⟩ := List.pairwise_cons.mp h
    have ih := pre_succ h2 k
    unfold pre at *
    by_cases hx : x < k
    · rw [List.filter_cons_of_pos (by simp; omega), List.filter_cons_of_pos (by simp; omega), ih]
      have : x ≠ k := by omega
      simp [Ne.symm this]
    · by_cases hk : x = k
      · subst hk
        rw [List.filter_cons_of_pos (by simp), List.filter_cons_of_neg (by simp)]
        have e1 : (S.filter fun t => decide (t < x + 1)) = [] := by
          rw [List.filter_eq_nil_iff]; intro y hy; have := h1 y hy; simp; omega
        have e2 : (S.filter fun t => decide (t < x)) = [] := by
          rw [List.filter_eq_nil_iff]; intro y hy; have := h1 y hy; simp; omega
        rw [e1, e2]; simp
      · rw [List.filter_cons_of_neg (by simp; omega), List.filter_cons_of_neg (by simp; omega), ih]
        simp [Ne.symm hk]
def goodM (s : St) : Bool := s.closed
def Zk (e : Nat → Nat × Nat) (n k p : Nat) : Prop := ∀ j, k ≤ j → j < n → inc e p j = false
/-- a web's ties, and its lists of points that are shut -/
structure WebOk (many n : Nat) (e : Nat → Nat × Nat) (lone : List Nat) (last : Nat → List Nat) : Prop where
  ties : ∀ k, k < n → (e k).1 ≠ (e k).2 ∧ (e k).1 < many ∧ (e k).2 < many
  lone : ∀ p, p ∈ lone ↔ p < many ∧ Zk e n 0 p
  last : ∀ k, k < n → ∀ p, p ∈ last k ↔ inc e p k = true ∧ Zk e n (k + 1) p
def beginM (many : Nat) : St := ⟨(List.range many).map (fun p : Nat => (p : Int)), false⟩
def openedM (all : Bool) (many : Nat) (lone : List Nat) : Option St := shutAllM all (some (beginM many)) lone
section
variable {all : Bool} {many n : Nat} {e : Nat → Nat × Nat} {lone : List Nat} {last : Nat → List Nat} {S : List Nat}
theorem gm_begin {p : Nat} (h : p < many) : gm (beginM many).mates p = p := by
  unfold gm beginM
  rw [List.getD_eq_getElem?_getD, List.getElem?_map, List.getElem?_range h]
  rfl
theorem inv_begin : Inv all many e [] (fun _ => False) (beginM many) where
  len := by simp [beginM]
  cases := fun p hp => .inr (.inl ⟨gm_begin hp, rfl⟩)
  zs := fun p h => h.elim
  ring := fun h => nomatch h
  conn := fun _ x h => absurd h (by simp [deg_nil])
  mate := fun _ p q hp h χ _ => by rw [gm_begin hp] at h; rw [show p = q by omega]
  sep := fun _ p hp _ => ⟨fun x => x == p, (fun t h => absurd h (by simp)), by simp, fun x hx _ h => .inl (by simpa using h)⟩
theorem inv_opened (W : WebOk many n e lone last) {s : St} (h : openedM all many lone = some s) : Inv all many e [] (Zk e n 0) s := by
  refine (inv_begin.shutAll h).congrZ fun x hx => ?_
  rw [W.lone]
  simp [hx]
theorem inc_bnd (W : WebOk many n e lone last) {p k : Nat} (hk : k < n) (h : inc e p k = true) : p < many := by
  have := W.ties k hk
  rcases inc_iff.mp h with q | q <;> omega
theorem inv_step (W : WebOk many n e lone last) (hs : S.Pairwise (· < ·)) (hn : ∀ x ∈ S, x < n) {k : Nat} (hk : k < n) {s s' : St} (I : Inv all many e (pre S k) (Zk e n k) s)
    (h : stepM all e last s k (S.contains k) = some s') : Inv all many e (pre S (k + 1)) (Zk e n (k + 1)) s' := by
  have nd : S.Nodup := hs.imp fun h => Nat.ne_of_lt h
  have hZ : ∀ x, x < many → ((Zk e n k x ∨ x ∈ last k) ↔ Zk e n (k + 1) x) := fun x _ => by
    rw [W.last k hk]
    constructor
    · rintro (h | h)
      · exact fun j h1 h2 => h j (by omega) h2
      · exact h.2
    · intro h
      by_cases q : inc e x k = true
      · exact .inr ⟨q, h⟩
      · refine .inl fun j h1 h2 => ?_
        by_cases z : j = k
        · subst z; simpa using q
        · exact h j (by omega) h2
  unfold stepM at h
  have hp := pre_succ hs k
  cases hc : S.contains k with
  | false =>
    rw [hc] at h hp
    rw [hp, if_neg (by simp), List.append_nil]
    rw [if_neg (by simp)] at h
    exact (I.shutAll h).congrZ hZ
  | true =>
    rw [hc] at h hp
    rw [hp, if_pos rfl]
    rw [if_pos rfl] at h
    cases q : tookM s (e k).1 (e k).2 with
    | none => rw [q, shutAllM_none] at h; cases h
    | some s1 =>
      rw [q] at h
      have ⟨w1, w2, w3⟩ := W.ties k hk
      refine ((I.took ?_ w1 w2 w3 (fun j hj => (W.ties j (hn j ((pre_sub S k).subset hj))).2) q).shutAll h).congrZ hZ
      rw [if_pos rfl] at hp
      rw [← hp]
      exact (pre_sub S (k + 1)).nodup nd
theorem inv_run (W : WebOk many n e lone last) (hs : S.Pairwise (· < ·)) (hn : ∀ x ∈ S, x < n) : ∀ (m k : Nat), k + m = n → ∀ s s' : St, Inv all many e (pre S k) (Zk e n k) s →
    run (stepM all e last) (fun j => S.contains j) (some s) k m = some s' → Inv all many e (pre S n) (Zk e n n) s'
  | 0, k, hk, s, s', I, h => by
    cases h
    have : k = n := by omega
    subst this; exact I
  | m + 1, k, hk, s, s', I, h => by
    have h' : run (stepM all e last) (fun j => S.contains j) (stepM all e last s k (S.contains k)) (k + 1) m = some s' := h
    cases q : stepM all e last s k (S.contains k) with
    | none => rw [q, run_none] at h'; cases h'
    | some s1 => rw [q] at h'; exact inv_run W hs hn m (k + 1) (by omega) s1 s' (inv_step W hs hn (by omega) I q) h'
theorem deg_after (hs : S.Pairwise (· < ·)) (hn : ∀ x ∈ S, x < n) {k p : Nat} (h : Zk e n k p) : deg e (pre S k) p = deg e S p := by
  unfold deg pre
  rw [List.countP_filter]
  apply List.countP_congr
  intro x hx
  by_cases z : x < k
  · simp [z]
  · have := h x (by omega) (hn x hx)
    simp [z, this]
theorem no_none (W : WebOk many n e lone last) (hs : S.Pairwise (· < ·)) (hn : ∀ x ∈ S, x < n) (R : IsRing e S) (A : all = true → ∀ p, p < many → deg e S p = 2) : ∀ (m k : Nat), k + m = n → ∀ s : St, Inv all many e (pre S k) (Zk e n k) s →
    run (stepM all e last) (fun j => S.contains j) (some s) k m ≠ none
  | 0, k, hk, s, I => by simp [run]
  | m + 1, k, hk, s, I => by
    have nd : S.Nodup := hs.imp fun h => Nat.ne_of_lt h
    have hkn : k < n := by omega
    have hst : stepM all e last s k (S.contains k) ≠ none := by
      have hp := pre_succ hs k
      have fin : ∀ p ∈ last k, p < many ∧ (deg e (pre S (k + 1)) p = 2 ∨ (all = false ∧ deg e (pre S (k + 1)) p = 0)) := fun p h => by
        have ⟨h1, h2⟩ := (W.last k hkn p).mp h
        refine ⟨inc_bnd W hkn h1, ?_⟩
        rw [deg_after hs hn h2]
        cases all with
        | true => exact .inl (A rfl p (inc_bnd W hkn h1))
        | false => rcases R.2.1 p with q | q; exact .inr ⟨rfl, q⟩; exact .inl q
      unfold stepM
      cases hc : S.contains k with
      | false =>
        rw [hc, if_neg (by simp), List.append_nil] at hp
        rw [if_neg (by simp)]
        rw [hp] at fin
        exact I.no_shutAll fin
      | true =>
        rw [hc, if_pos rfl] at hp
        rw [if_pos rfl]
        have ⟨w1, w2, w3⟩ := W.ties k hkn
        have hb : ∀ j ∈ pre S k, (e j).1 < many ∧ (e j).2 < many := fun j hj => (W.ties j (hn j ((pre_sub S k).subset hj))).2
        have ndk : (pre S k ++ [k]).Nodup := by rw [← hp]; exact (pre_sub S (k + 1)).nodup nd
        have hno := I.no_refuse R ndk (by rw [← hp]; exact pre_sub S (k + 1)) w1 w2 w3 hb ⟨fun z => (by have := z k (Nat.le_refl k) hkn; rw [inc_fst] at this; cases this), fun z => (by have := z k (Nat.le_refl k) hkn; rw [inc_snd] at this; cases this)⟩
        cases q : tookM s (e k).1 (e k).2 with
        | none => exact absurd q hno
        | some s1 =>
          rw [hp] at fin
          exact (I.took ndk w1 w2 w3 hb q).no_shutAll fin
    show run (stepM all e last) (fun j => S.contains j) (stepM all e last s k (S.contains k)) (k + 1) m ≠ none
    cases q : stepM all e last s k (S.contains k) with
    | none => exact absurd q hst
    | some s1 => exact no_none W hs hn R A m (k + 1) (by omega) s1 (inv_step W hs hn hkn I q)
/-- THE PLAIN LAW OF A RUN -/
theorem acc_iff (W : WebOk many n e lone last) (hs : S.Pairwise (· < ·)) (hn : ∀ x ∈ S, x < n) :
    acc (stepM all e last) goodM (fun j => S.contains j) (openedM all many lone) 0 n = true ↔ IsRing e S ∧ (all = true → ∀ p, p < many → deg e S p = 2) := by
  unfold acc
  have Zn : ∀ p, Zk e n n p := fun p j h1 h2 => by omega
  constructor
  · intro h
    cases ho : openedM all many lone with
    | none => rw [ho, run_none] at h; cases h
    | some s0 =>
      cases hr : run (stepM all e last) (fun j => S.contains j) (some s0) 0 n with
      | none => rw [ho, hr] at h; cases h
      | some s =>
        rw [ho, hr] at h
        have I0 := inv_opened (all := all) W ho
        have I := inv_run W hs hn n 0 (by omega) s0 s (by rw [pre_zero]; exact I0) hr
        rw [pre_all hn] at I
        refine ⟨I.ring h, fun ha p hp => ?_⟩
        have hz := I.zs p (Zn p) hp
        rcases I.cases p hp with ⟨_, c | ⟨c, _⟩⟩ | ⟨c, _⟩ | ⟨_, q, _, _, c, _⟩
        · exact c
        · rw [ha] at c; cases c
        · omega
        · omega
  · rintro ⟨R, A⟩
    have hopen : openedM all many lone ≠ none := by
      unfold openedM
      refine (inv_begin (all := all) (many := many) (e := e)).no_shutAll fun p hp => ?_
      have ⟨h1, h2⟩ := (W.lone p).mp hp
      refine ⟨h1, ?_⟩
      have h3 := deg_after hs hn h2
      rw [pre_zero, deg_nil] at h3
      cases ha : all with
      | false => exact .inr ⟨rfl, rfl⟩
      | true => have := A ha p h1; omega
    cases ho : openedM all many lone with
    | none => exact absurd ho hopen
    | some s0 =>
      have I0 := inv_opened (all := all) W ho
      have hno := no_none W hs hn R A n 0 (by omega) s0 (by rw [pre_zero]; exact I0)
      cases hr : run (stepM all e last) (fun j => S.contains j) (some s0) 0 n with
      | none => exact absurd hr hno
      | some s =>
        have I := inv_run W hs hn n 0 (by omega) s0 s (by rw [pre_zero]; exact I0) hr
        rw [pre_all hn] at I
        show s.closed = true
        cases hc : s.closed with
        | true => rfl
        | false =>
          exfalso
          obtain ⟨t, ht⟩ := List.exists_mem_of_ne_nil S R.1
          obtain ⟨p, _, d, _⟩ := I.conn hc (e t).1 (deg_pos ht (inc_fst t))
          rcases R.2.1 p with q | q <;> omega
end
end Fw
end

section
set_option Elab.async false
set_option maxRecDepth 100000
set_option maxHeartbeats 4000000
set_option linter.all false
/-! B0: the text by places, the slots of each def, the facts that the top leaves. Printed by genb.py. -/
namespace Fw
open PySem L2
def top (i : Nat) : Stmt := PySem.Challenge.pw_frontways_k32_whole_rings.main.body.getD i (.Pass ⟨0, 0, 0, 0⟩)
abbrev s_Sieve_init : Stmt := inClass (top 7) 0
abbrev s_Sieve_many : Stmt := inClass (top 7) 1
abbrev s_Sieve_knots : Stmt := inClass (top 7) 2
abbrev s_Sieve_top : Stmt := inClass (top 7) 3
abbrev s_knot_sets : Stmt := top 8
abbrev s_sets_of : Stmt := top 9
abbrev s_led_to : Stmt := top 10
abbrev s_has_set : Stmt := top 11
abbrev s_look_many : Stmt := top 14
abbrev s_merged_knots : Stmt := top 15
abbrev s_knots_reached : Stmt := top 16
abbrev s_numbered_sieve : Stmt := top 17
abbrev s_least_of : Stmt := top 18
abbrev s_look_rows : Stmt := top 19
abbrev s_least_sieve : Stmt := top 20
abbrev s_last_points : Stmt := top 22
abbrev s_Rule_look : Stmt := inClass (top 23) 0
abbrev s_Rule_left : Stmt := inClass (top 23) 3
abbrev s_Rule_shut_all : Stmt := inClass (top 23) 6
abbrev s_Rule_opened : Stmt := inClass (top 23) 7
abbrev s_Rule_stepped : Stmt := inClass (top 23) 8
abbrev s_Rule_fits : Stmt := inClass (top 23) 9
abbrev s_number_of_state : Stmt := top 25
abbrev s_levels_of : Stmt := top 26
abbrev s_grown : Stmt := top 27
abbrev s_tied_mates : Stmt := top 30
abbrev s_are_ended : Stmt := top 31
abbrev s_Rings_begin : Stmt := inClass (top 32) 0
abbrev s_Rings_took : Stmt := inClass (top 32) 1
abbrev s_Rings_shut : Stmt := inClass (top 32) 2
abbrev s_Rings_good : Stmt := inClass (top 32) 3
abbrev s_Rounds_shut : Stmt := inClass (top 33) 0
abbrev s_Web_init : Stmt := inClass (top 37) 0
abbrev s_Web_good_tie : Stmt := inClass (top 37) 1
abbrev s_Web_size : Stmt := inClass (top 37) 2
abbrev s_Web_ties : Stmt := inClass (top 37) 3
abbrev s_Web_at : Stmt := inClass (top 37) 4
abbrev s_law_at : Stmt := top 39
abbrev s_law_mixed : Stmt := top 40
abbrev s_law_rows : Stmt := top 41
abbrev s_law_web : Stmt := top 42
abbrev s_law_bits : Stmt := top 43
abbrev s_law_walked : Stmt := top 44
abbrev s_law_round : Stmt := top 45
abbrev s_law_set : Stmt := top 46
abbrev s_law_right : Stmt := top 47
abbrev s_law_elsewhere : Stmt := top 48
abbrev s_law : Stmt := top 49
theorem sc_Sieve_init : FnScope ["self", "wide", "rows", "start"] ["self", "wide", "rows", "start"] (defScope s_Sieve_init) := ⟨rfl, rfl, rfl, by decide +kernel, rfl, by decide +kernel, by decide +kernel⟩
theorem sc_Sieve_many : FnScope ["self"] ["self"] (defScope s_Sieve_many) := ⟨rfl, rfl, rfl, by decide +kernel, rfl, by decide +kernel, by decide +kernel⟩
theorem sc_Sieve_knots : FnScope ["self"] ["self"] (defScope s_Sieve_knots) := ⟨rfl, rfl, rfl, by decide +kernel, rfl, by decide +kernel, by decide +kernel⟩
theorem sc_Sieve_top : FnScope ["self"] ["self"] (defScope s_Sieve_top) := ⟨rfl, rfl, rfl, by decide +kernel, rfl, by decide +kernel, by decide +kernel⟩
theorem sc_knot_sets : FnScope ["sieve", "found", "tie", "out", "into", "some"] ["sieve"] (defScope s_knot_sets) := ⟨rfl, rfl, rfl, by decide +kernel, rfl, by decide +kernel, by decide +kernel⟩
theorem sc_sets_of : FnScope ["sieve"] ["sieve"] (defScope s_sets_of) := ⟨rfl, rfl, rfl, by decide +kernel, rfl, by decide +kernel, by decide +kernel⟩
theorem sc_led_to : FnScope ["sieve", "knot", "some", "rows", "at", "tie", "out", "into"] ["sieve", "knot", "some"] (defScope s_led_to) := ⟨rfl, rfl, rfl, by decide +kernel, rfl, by decide +kernel, by decide +kernel⟩
theorem sc_has_set : FnScope ["sieve", "some"] ["sieve", "some"] (defScope s_has_set) := ⟨rfl, rfl, rfl, by decide +kernel, rfl, by decide +kernel, by decide +kernel⟩
theorem sc_look_many : FnScope ["n"] ["n"] (defScope s_look_many) := ⟨rfl, rfl, rfl, by decide +kernel, rfl, by decide +kernel, by decide +kernel⟩
theorem sc_merged_knots : FnScope ["rows", "same", "known", "kept", "tie", "out", "into", "row"] ["rows"] (defScope s_merged_knots) := ⟨rfl, rfl, rfl, by decide +kernel, rfl, by decide +kernel, by decide +kernel⟩
theorem sc_knots_reached : FnScope ["kept", "top", "found", "waiting", "knot"] ["kept", "top"] (defScope s_knots_reached) := ⟨rfl, rfl, rfl, by decide +kernel, rfl, by decide +kernel, by decide +kernel⟩
theorem sc_numbered_sieve : FnScope ["n", "kept", "top", "by_tie", "knot", "new", "rows", "some", "here", "out", "into", "tie"] ["n", "kept", "top"] (defScope s_numbered_sieve) := ⟨rfl, rfl, rfl, by decide +kernel, rfl, by decide +kernel, by decide +kernel⟩
theorem sc_least_of : FnScope ["n", "rows", "top", "same", "kept"] ["n", "rows", "top"] (defScope s_least_of) := ⟨rfl, rfl, rfl, by decide +kernel, rfl, by decide +kernel, by decide +kernel⟩
theorem sc_look_rows : FnScope ["n", "rows", "top", "k", "row", "tie", "out", "into", "knot"] ["n", "rows", "top"] (defScope s_look_rows) := ⟨rfl, rfl, rfl, by decide +kernel, rfl, by decide +kernel, by decide +kernel⟩
theorem sc_least_sieve : FnScope ["n", "rows", "top"] ["n", "rows", "top"] (defScope s_least_sieve) := ⟨rfl, rfl, rfl, by decide +kernel, rfl, by decide +kernel, by decide +kernel⟩
theorem sc_last_points : FnScope ["web", "k", "tie", "point"] ["web"] (defScope s_last_points) := ⟨rfl, rfl, rfl, by decide +kernel, rfl, by decide +kernel, by decide +kernel⟩
theorem sc_Rule_look : FnScope ["self", "web"] ["self", "web"] (defScope s_Rule_look) := ⟨rfl, rfl, rfl, by decide +kernel, rfl, by decide +kernel, by decide +kernel⟩
theorem sc_Rule_left : FnScope ["self", "web", "state", "k"] ["self", "web", "state", "k"] (defScope s_Rule_left) := ⟨rfl, rfl, rfl, by decide +kernel, rfl, by decide +kernel, by decide +kernel⟩
theorem sc_Rule_shut_all : FnScope ["self", "web", "state", "points", "point"] ["self", "web", "state", "points"] (defScope s_Rule_shut_all) := ⟨rfl, rfl, rfl, by decide +kernel, rfl, by decide +kernel, by decide +kernel⟩
theorem sc_Rule_opened : FnScope ["self", "web", "lone", "point"] ["self", "web"] (defScope s_Rule_opened) := ⟨rfl, rfl, rfl, by decide +kernel, rfl, by decide +kernel, by decide +kernel⟩
theorem sc_Rule_stepped : FnScope ["self", "web", "state", "k", "taken", "last"] ["self", "web", "state", "k", "taken", "last"] (defScope s_Rule_stepped) := ⟨rfl, rfl, rfl, by decide +kernel, rfl, by decide +kernel, by decide +kernel⟩
theorem sc_Rule_fits : FnScope ["self", "web", "some", "state", "k", "last"] ["self", "web", "some"] (defScope s_Rule_fits) := ⟨rfl, rfl, rfl, by decide +kernel, rfl, by decide +kernel, by decide +kernel⟩
theorem sc_number_of_state : FnScope ["state", "numbers"] ["state", "numbers"] (defScope s_number_of_state) := ⟨rfl, rfl, rfl, by decide +kernel, rfl, by decide +kernel, by decide +kernel⟩
theorem sc_levels_of : FnScope ["web", "rule", "start", "here", "levels", "k", "last", "level", "later", "state", "both", "one", "taken"] ["web", "rule"] (defScope s_levels_of) := ⟨rfl, rfl, rfl, by decide +kernel, rfl, by decide +kernel, by decide +kernel⟩
theorem sc_grown : FnScope ["web", "rule", "start", "levels", "last", "numbers", "state", "rows", "k", "here", "both"] ["web", "rule"] (defScope s_grown) := ⟨rfl, rfl, rfl, by decide +kernel, rfl, by decide +kernel, by decide +kernel⟩
theorem sc_tied_mates : FnScope ["mates", "one", "other", "first", "last", "found"] ["mates", "one", "other"] (defScope s_tied_mates) := ⟨rfl, rfl, rfl, by decide +kernel, rfl, by decide +kernel, by decide +kernel⟩
theorem sc_are_ended : FnScope ["mates", "point", "mate"] ["mates"] (defScope s_are_ended) := ⟨rfl, rfl, rfl, by decide +kernel, rfl, by decide +kernel, by decide +kernel⟩
theorem sc_Rings_begin : FnScope ["self", "web"] ["self", "web"] (defScope s_Rings_begin) := ⟨rfl, rfl, rfl, by decide +kernel, rfl, by decide +kernel, by decide +kernel⟩
theorem sc_Rings_took : FnScope ["self", "web", "state", "k", "one", "other", "mates"] ["self", "web", "state", "k"] (defScope s_Rings_took) := ⟨rfl, rfl, rfl, by decide +kernel, rfl, by decide +kernel, by decide +kernel⟩
theorem sc_Rings_shut : FnScope ["self", "web", "state", "point"] ["self", "web", "state", "point"] (defScope s_Rings_shut) := ⟨rfl, rfl, rfl, by decide +kernel, rfl, by decide +kernel, by decide +kernel⟩
theorem sc_Rings_good : FnScope ["self", "web", "state"] ["self", "web", "state"] (defScope s_Rings_good) := ⟨rfl, rfl, rfl, by decide +kernel, rfl, by decide +kernel, by decide +kernel⟩
theorem sc_Rounds_shut : FnScope ["self", "web", "state", "point"] ["self", "web", "state", "point"] (defScope s_Rounds_shut) := ⟨rfl, rfl, rfl, by decide +kernel, rfl, by decide +kernel, by decide +kernel⟩
theorem sc_Web_init : FnScope ["self", "many", "ties", "tie"] ["self", "many", "ties"] (defScope s_Web_init) := ⟨rfl, rfl, rfl, by decide +kernel, rfl, by decide +kernel, by decide +kernel⟩
theorem sc_Web_good_tie : FnScope ["self", "low", "high"] ["self", "low", "high"] (defScope s_Web_good_tie) := ⟨rfl, rfl, rfl, by decide +kernel, rfl, by decide +kernel, by decide +kernel⟩
theorem sc_Web_size : FnScope ["self"] ["self"] (defScope s_Web_size) := ⟨rfl, rfl, rfl, by decide +kernel, rfl, by decide +kernel, by decide +kernel⟩
theorem sc_Web_ties : FnScope ["self"] ["self"] (defScope s_Web_ties) := ⟨rfl, rfl, rfl, by decide +kernel, rfl, by decide +kernel, by decide +kernel⟩
theorem sc_Web_at : FnScope ["self", "point", "k", "tie"] ["self", "point"] (defScope s_Web_at) := ⟨rfl, rfl, rfl, by decide +kernel, rfl, by decide +kernel, by decide +kernel⟩
theorem sc_law_at : FnScope ["_law_script", "_law_k"] ["_law_script", "_law_k"] (defScope s_law_at) := ⟨rfl, rfl, rfl, by decide +kernel, rfl, by decide +kernel, by decide +kernel⟩
theorem sc_law_mixed : FnScope ["_law_cell", "_law_one", "_law_two"] ["_law_cell"] (defScope s_law_mixed) := ⟨rfl, rfl, rfl, by decide +kernel, rfl, by decide +kernel, by decide +kernel⟩
theorem sc_law_rows : FnScope ["_law_many", "_law_number", "_law_pairs", "_law_one", "_law_wanted", "_law_rows_here", "_law_other"] ["_law_many", "_law_number"] (defScope s_law_rows) := ⟨rfl, rfl, rfl, by decide +kernel, rfl, by decide +kernel, by decide +kernel⟩
theorem sc_law_web : FnScope ["_law_cell", "_law_number"] ["_law_cell"] (defScope s_law_web) := ⟨rfl, rfl, rfl, by decide +kernel, rfl, by decide +kernel, by decide +kernel⟩
theorem sc_law_bits : FnScope ["_law_rows_here", "_law_cell", "_law_k"] ["_law_rows_here", "_law_cell"] (defScope s_law_bits) := ⟨rfl, rfl, rfl, by decide +kernel, rfl, by decide +kernel, by decide +kernel⟩
theorem sc_law_walked : FnScope ["_law_many", "_law_rows_here", "_law_cell", "_law_begin", "_law_here", "_law_seen", "_law_some", "_law_turn", "_law_steps", "_law_k", "_law_row"] ["_law_many", "_law_rows_here", "_law_cell"] (defScope s_law_walked) := ⟨rfl, rfl, rfl, by decide +kernel, rfl, by decide +kernel, by decide +kernel⟩
theorem sc_law_round : FnScope ["_law_rows_here", "_law_some", "_law_begin", "_law_here", "_law_left", "_law_seen", "_law_turn", "_law_steps", "_law_k"] ["_law_rows_here", "_law_some"] (defScope s_law_round) := ⟨rfl, rfl, rfl, by decide +kernel, rfl, by decide +kernel, by decide +kernel⟩
theorem sc_law_set : FnScope ["_law_many", "_law_rows_here", "_law_told", "_law_cell", "_law_k", "_law_some", "_law_tie", "_law_one"] ["_law_many", "_law_rows_here", "_law_told", "_law_cell", "_law_k"] (defScope s_law_set) := ⟨rfl, rfl, rfl, by decide +kernel, rfl, by decide +kernel, by decide +kernel⟩
theorem sc_law_right : FnScope ["_law_web_here", "_law_rule", "_law_sieve", "_law_some", "_law_due", "_law_asked"] ["_law_web_here", "_law_rule", "_law_sieve", "_law_some", "_law_due", "_law_asked"] (defScope s_law_right) := ⟨rfl, rfl, rfl, by decide +kernel, rfl, by decide +kernel, by decide +kernel⟩
theorem sc_law_elsewhere : FnScope ["_law_rules", "_law_many", "_law_rows_here", "_law_others", "_law_other", "_law_some", "_law_k", "_law_row"] ["_law_rules", "_law_many", "_law_rows_here"] (defScope s_law_elsewhere) := ⟨rfl, rfl, rfl, by decide +kernel, rfl, by decide +kernel, by decide +kernel⟩
theorem sc_law : FnScope ["_law_script", "_law_many", "_law_rows_here", "_law_web_here", "_law_rules", "_law_sieves", "_law_told", "_law_some", "_law_k", "_law_cell", "_law_points", "_law_due", "_law_rule", "_law_sieve"] ["_law_script"] (defScope s_law) := ⟨rfl, rfl, rfl, by decide +kernel, rfl, by decide +kernel, by decide +kernel⟩
/-- where all stands -/
structure Ad where
  c_Sieve : Addr
  c_Rule : Addr
  c_Rings : Addr
  c_Rounds : Addr
  c_Web : Addr
  f_Sieve_init : Addr
  d_Sieve_init : FuncData
  f_Sieve_many : Addr
  d_Sieve_many : FuncData
  f_Sieve_knots : Addr
  d_Sieve_knots : FuncData
  f_Sieve_top : Addr
  d_Sieve_top : FuncData
  f_knot_sets : Addr
  d_knot_sets : FuncData
  f_sets_of : Addr
  d_sets_of : FuncData
  f_led_to : Addr
  d_led_to : FuncData
  f_has_set : Addr
  d_has_set : FuncData
  f_look_many : Addr
  d_look_many : FuncData
  f_merged_knots : Addr
  d_merged_knots : FuncData
  f_knots_reached : Addr
  d_knots_reached : FuncData
  f_numbered_sieve : Addr
  d_numbered_sieve : FuncData
  f_least_of : Addr
  d_least_of : FuncData
  f_look_rows : Addr
  d_look_rows : FuncData
  f_least_sieve : Addr
  d_least_sieve : FuncData
  f_last_points : Addr
  d_last_points : FuncData
  f_Rule_look : Addr
  d_Rule_look : FuncData
  f_Rule_left : Addr
  d_Rule_left : FuncData
  f_Rule_shut_all : Addr
  d_Rule_shut_all : FuncData
  f_Rule_opened : Addr
  d_Rule_opened : FuncData
  f_Rule_stepped : Addr
  d_Rule_stepped : FuncData
  f_Rule_fits : Addr
  d_Rule_fits : FuncData
  f_number_of_state : Addr
  d_number_of_state : FuncData
  f_levels_of : Addr
  d_levels_of : FuncData
  f_grown : Addr
  d_grown : FuncData
  f_tied_mates : Addr
  d_tied_mates : FuncData
  f_are_ended : Addr
  d_are_ended : FuncData
  f_Rings_begin : Addr
  d_Rings_begin : FuncData
  f_Rings_took : Addr
  d_Rings_took : FuncData
  f_Rings_shut : Addr
  d_Rings_shut : FuncData
  f_Rings_good : Addr
  d_Rings_good : FuncData
  f_Rounds_shut : Addr
  d_Rounds_shut : FuncData
  f_Web_init : Addr
  d_Web_init : FuncData
  f_Web_good_tie : Addr
  d_Web_good_tie : FuncData
  f_Web_size : Addr
  d_Web_size : FuncData
  f_Web_ties : Addr
  d_Web_ties : FuncData
  f_Web_at : Addr
  d_Web_at : FuncData
  f_law_at : Addr
  d_law_at : FuncData
  f_law_mixed : Addr
  d_law_mixed : FuncData
  f_law_rows : Addr
  d_law_rows : FuncData
  f_law_web : Addr
  d_law_web : FuncData
  f_law_bits : Addr
  d_law_bits : FuncData
  f_law_walked : Addr
  d_law_walked : FuncData
  f_law_round : Addr
  d_law_round : FuncData
  f_law_set : Addr
  d_law_set : FuncData
  f_law_right : Addr
  d_law_right : FuncData
  f_law_elsewhere : Addr
  d_law_elsewhere : FuncData
  f_law : Addr
  d_law : FuncData
/-- what the top leaves -/
structure Txt (K : PySem.W.Frag) (mg : Str → Option Value) (A : Ad) : Prop where
  g_Sieve : mg "Sieve" = some (.ref A.c_Sieve)
  g_Rule : mg "Rule" = some (.ref A.c_Rule)
  g_Rings : mg "Rings" = some (.ref A.c_Rings)
  g_Rounds : mg "Rounds" = some (.ref A.c_Rounds)
  g_Web : mg "Web" = some (.ref A.c_Web)
  cl_Sieve : Cls K A.c_Sieve
  cl_Rings : Cls K A.c_Rings
  cl_Rounds : Cls K A.c_Rounds
  cl_Web : Cls K A.c_Web
  mk_Sieve : Mk K A.c_Sieve A.f_Sieve_init
  n_Sieve_wide : NoAttr K A.c_Sieve "wide"
  n_Sieve_rows : NoAttr K A.c_Sieve "rows"
  n_Sieve_start : NoAttr K A.c_Sieve "start"
  mk_Web : Mk K A.c_Web A.f_Web_init
  n_Web_point_count : NoAttr K A.c_Web "point_count"
  n_Web_rows : NoAttr K A.c_Web "rows"
  mk_Rings : PySem.W.makesIn K A.c_Rings = true
  in_Rings : PySem.W.findIn K (.ref A.c_Rings) "__init__" = some (some (.builtin "object.__init__"))
  kc_Rings : PySem.W.keepIn K (.ref A.c_Rings) = true
  is_Rings : PySem.W.kitOne K (.ref A.c_Rings) (.ref A.c_Rule) = some true
  ca_Rings : PySem.W.findIn K (.ref A.c_Rings) "__class__" = some (some (.builtin "object.__class__"))
  cm_Rings : PySem.W.mroIn K A.c_Rings (.type "object") = some true
  mk_Rounds : PySem.W.makesIn K A.c_Rounds = true
  in_Rounds : PySem.W.findIn K (.ref A.c_Rounds) "__init__" = some (some (.builtin "object.__init__"))
  kc_Rounds : PySem.W.keepIn K (.ref A.c_Rounds) = true
  is_Rounds : PySem.W.kitOne K (.ref A.c_Rounds) (.ref A.c_Rule) = some true
  ca_Rounds : PySem.W.findIn K (.ref A.c_Rounds) "__class__" = some (some (.builtin "object.__class__"))
  cm_Rounds : PySem.W.mroIn K A.c_Rounds (.type "object") = some true
  x_get : PySem.W.specialIn K (.builtin "object.__class__") "__get__" = some (some (.builtin "getset_descriptor.__get__"))
  x_tak : PySem.W.takesIn K (.builtin "object.__class__") = some true
  F_Sieve_init : Fun K "__init__" "Sieve.__init__" s_Sieve_init A.f_Sieve_init A.d_Sieve_init
  b_Sieve_init : Binds K A.d_Sieve_init ["self", "wide", "rows", "start"] []
  F_Sieve_many : Fun K "many" "Sieve.many" s_Sieve_many A.f_Sieve_many A.d_Sieve_many
  b_Sieve_many : Binds K A.d_Sieve_many ["self"] []
  F_Sieve_knots : Fun K "knots" "Sieve.knots" s_Sieve_knots A.f_Sieve_knots A.d_Sieve_knots
  b_Sieve_knots : Binds K A.d_Sieve_knots ["self"] []
  F_Sieve_top : Fun K "top" "Sieve.top" s_Sieve_top A.f_Sieve_top A.d_Sieve_top
  b_Sieve_top : Binds K A.d_Sieve_top ["self"] []
  F_knot_sets : Fun K "knot_sets" "knot_sets" s_knot_sets A.f_knot_sets A.d_knot_sets
  b_knot_sets : Binds K A.d_knot_sets ["sieve"] []
  g_knot_sets : mg "knot_sets" = some (.ref A.f_knot_sets)
  F_sets_of : Fun K "sets_of" "sets_of" s_sets_of A.f_sets_of A.d_sets_of
  b_sets_of : Binds K A.d_sets_of ["sieve"] []
  g_sets_of : mg "sets_of" = some (.ref A.f_sets_of)
  F_led_to : Fun K "led_to" "led_to" s_led_to A.f_led_to A.d_led_to
  b_led_to : Binds K A.d_led_to ["sieve", "knot", "some"] []
  g_led_to : mg "led_to" = some (.ref A.f_led_to)
  F_has_set : Fun K "has_set" "has_set" s_has_set A.f_has_set A.d_has_set
  b_has_set : Binds K A.d_has_set ["sieve", "some"] []
  g_has_set : mg "has_set" = some (.ref A.f_has_set)
  F_look_many : Fun K "look_many" "look_many" s_look_many A.f_look_many A.d_look_many
  b_look_many : Binds K A.d_look_many ["n"] []
  g_look_many : mg "look_many" = some (.ref A.f_look_many)
  F_merged_knots : Fun K "merged_knots" "merged_knots" s_merged_knots A.f_merged_knots A.d_merged_knots
  b_merged_knots : Binds K A.d_merged_knots ["rows"] []
  g_merged_knots : mg "merged_knots" = some (.ref A.f_merged_knots)
  F_knots_reached : Fun K "knots_reached" "knots_reached" s_knots_reached A.f_knots_reached A.d_knots_reached
  b_knots_reached : Binds K A.d_knots_reached ["kept", "top"] []
  g_knots_reached : mg "knots_reached" = some (.ref A.f_knots_reached)
  F_numbered_sieve : Fun K "numbered_sieve" "numbered_sieve" s_numbered_sieve A.f_numbered_sieve A.d_numbered_sieve
  b_numbered_sieve : Binds K A.d_numbered_sieve ["n", "kept", "top"] []
  g_numbered_sieve : mg "numbered_sieve" = some (.ref A.f_numbered_sieve)
  F_least_of : Fun K "least_of" "least_of" s_least_of A.f_least_of A.d_least_of
  b_least_of : Binds K A.d_least_of ["n", "rows", "top"] []
  g_least_of : mg "least_of" = some (.ref A.f_least_of)
  F_look_rows : Fun K "look_rows" "look_rows" s_look_rows A.f_look_rows A.d_look_rows
  b_look_rows : Binds K A.d_look_rows ["n", "rows", "top"] []
  g_look_rows : mg "look_rows" = some (.ref A.f_look_rows)
  F_least_sieve : Fun K "least_sieve" "least_sieve" s_least_sieve A.f_least_sieve A.d_least_sieve
  b_least_sieve : Binds K A.d_least_sieve ["n", "rows", "top"] []
  g_least_sieve : mg "least_sieve" = some (.ref A.f_least_sieve)
  F_last_points : Fun K "last_points" "last_points" s_last_points A.f_last_points A.d_last_points
  b_last_points : Binds K A.d_last_points ["web"] []
  g_last_points : mg "last_points" = some (.ref A.f_last_points)
  F_Rule_look : Fun K "look" "Rule.look" s_Rule_look A.f_Rule_look A.d_Rule_look
  b_Rule_look : Binds K A.d_Rule_look ["self", "web"] []
  F_Rule_left : Fun K "left" "Rule.left" s_Rule_left A.f_Rule_left A.d_Rule_left
  b_Rule_left : Binds K A.d_Rule_left ["self", "web", "state", "k"] []
  F_Rule_shut_all : Fun K "shut_all" "Rule.shut_all" s_Rule_shut_all A.f_Rule_shut_all A.d_Rule_shut_all
  b_Rule_shut_all : Binds K A.d_Rule_shut_all ["self", "web", "state", "points"] []
  F_Rule_opened : Fun K "opened" "Rule.opened" s_Rule_opened A.f_Rule_opened A.d_Rule_opened
  b_Rule_opened : Binds K A.d_Rule_opened ["self", "web"] []
  F_Rule_stepped : Fun K "stepped" "Rule.stepped" s_Rule_stepped A.f_Rule_stepped A.d_Rule_stepped
  b_Rule_stepped : Binds K A.d_Rule_stepped ["self", "web", "state", "k", "taken", "last"] []
  F_Rule_fits : Fun K "fits" "Rule.fits" s_Rule_fits A.f_Rule_fits A.d_Rule_fits
  b_Rule_fits : Binds K A.d_Rule_fits ["self", "web", "some"] []
  F_number_of_state : Fun K "number_of_state" "number_of_state" s_number_of_state A.f_number_of_state A.d_number_of_state
  b_number_of_state : Binds K A.d_number_of_state ["state", "numbers"] []
  g_number_of_state : mg "number_of_state" = some (.ref A.f_number_of_state)
  F_levels_of : Fun K "levels_of" "levels_of" s_levels_of A.f_levels_of A.d_levels_of
  b_levels_of : Binds K A.d_levels_of ["web", "rule"] []
  g_levels_of : mg "levels_of" = some (.ref A.f_levels_of)
  F_grown : Fun K "grown" "grown" s_grown A.f_grown A.d_grown
  b_grown : Binds K A.d_grown ["web", "rule"] []
  g_grown : mg "grown" = some (.ref A.f_grown)
  F_tied_mates : Fun K "tied_mates" "tied_mates" s_tied_mates A.f_tied_mates A.d_tied_mates
  b_tied_mates : Binds K A.d_tied_mates ["mates", "one", "other"] []
  g_tied_mates : mg "tied_mates" = some (.ref A.f_tied_mates)
  F_are_ended : Fun K "are_ended" "are_ended" s_are_ended A.f_are_ended A.d_are_ended
  b_are_ended : Binds K A.d_are_ended ["mates"] []
  g_are_ended : mg "are_ended" = some (.ref A.f_are_ended)
  F_Rings_begin : Fun K "begin" "Rings.begin" s_Rings_begin A.f_Rings_begin A.d_Rings_begin
  b_Rings_begin : Binds K A.d_Rings_begin ["self", "web"] []
  F_Rings_took : Fun K "took" "Rings.took" s_Rings_took A.f_Rings_took A.d_Rings_took
  b_Rings_took : Binds K A.d_Rings_took ["self", "web", "state", "k"] []
  F_Rings_shut : Fun K "shut" "Rings.shut" s_Rings_shut A.f_Rings_shut A.d_Rings_shut
  b_Rings_shut : Binds K A.d_Rings_shut ["self", "web", "state", "point"] []
  F_Rings_good : Fun K "good" "Rings.good" s_Rings_good A.f_Rings_good A.d_Rings_good
  b_Rings_good : Binds K A.d_Rings_good ["self", "web", "state"] []
  F_Rounds_shut : Fun K "shut" "Rounds.shut" s_Rounds_shut A.f_Rounds_shut A.d_Rounds_shut
  b_Rounds_shut : Binds K A.d_Rounds_shut ["self", "web", "state", "point"] []
  F_Web_init : Fun K "__init__" "Web.__init__" s_Web_init A.f_Web_init A.d_Web_init
  b_Web_init : Binds K A.d_Web_init ["self", "many", "ties"] []
  F_Web_good_tie : Fun K "good_tie" "Web.good_tie" s_Web_good_tie A.f_Web_good_tie A.d_Web_good_tie
  b_Web_good_tie : Binds K A.d_Web_good_tie ["self", "low", "high"] []
  F_Web_size : Fun K "size" "Web.size" s_Web_size A.f_Web_size A.d_Web_size
  b_Web_size : Binds K A.d_Web_size ["self"] []
  F_Web_ties : Fun K "ties" "Web.ties" s_Web_ties A.f_Web_ties A.d_Web_ties
  b_Web_ties : Binds K A.d_Web_ties ["self"] []
  F_Web_at : Fun K "at" "Web.at" s_Web_at A.f_Web_at A.d_Web_at
  b_Web_at : Binds K A.d_Web_at ["self", "point"] []
  F_law_at : Fun K "_law_at" "_law_at" s_law_at A.f_law_at A.d_law_at
  b_law_at : Binds K A.d_law_at ["_law_script", "_law_k"] []
  g_law_at : mg "_law_at" = some (.ref A.f_law_at)
  F_law_mixed : Fun K "_law_mixed" "_law_mixed" s_law_mixed A.f_law_mixed A.d_law_mixed
  b_law_mixed : Binds K A.d_law_mixed ["_law_cell"] []
  g_law_mixed : mg "_law_mixed" = some (.ref A.f_law_mixed)
  F_law_rows : Fun K "_law_rows" "_law_rows" s_law_rows A.f_law_rows A.d_law_rows
  b_law_rows : Binds K A.d_law_rows ["_law_many", "_law_number"] []
  g_law_rows : mg "_law_rows" = some (.ref A.f_law_rows)
  F_law_web : Fun K "_law_web" "_law_web" s_law_web A.f_law_web A.d_law_web
  b_law_web : Binds K A.d_law_web ["_law_cell"] []
  g_law_web : mg "_law_web" = some (.ref A.f_law_web)
  F_law_bits : Fun K "_law_bits" "_law_bits" s_law_bits A.f_law_bits A.d_law_bits
  b_law_bits : Binds K A.d_law_bits ["_law_rows_here", "_law_cell"] []
  g_law_bits : mg "_law_bits" = some (.ref A.f_law_bits)
  F_law_walked : Fun K "_law_walked" "_law_walked" s_law_walked A.f_law_walked A.d_law_walked
  b_law_walked : Binds K A.d_law_walked ["_law_many", "_law_rows_here", "_law_cell"] []
  g_law_walked : mg "_law_walked" = some (.ref A.f_law_walked)
  F_law_round : Fun K "_law_round" "_law_round" s_law_round A.f_law_round A.d_law_round
  b_law_round : Binds K A.d_law_round ["_law_rows_here", "_law_some"] []
  g_law_round : mg "_law_round" = some (.ref A.f_law_round)
  F_law_set : Fun K "_law_set" "_law_set" s_law_set A.f_law_set A.d_law_set
  b_law_set : Binds K A.d_law_set ["_law_many", "_law_rows_here", "_law_told", "_law_cell", "_law_k"] []
  g_law_set : mg "_law_set" = some (.ref A.f_law_set)
  F_law_right : Fun K "_law_right" "_law_right" s_law_right A.f_law_right A.d_law_right
  b_law_right : Binds K A.d_law_right ["_law_web_here", "_law_rule", "_law_sieve", "_law_some", "_law_due", "_law_asked"] []
  g_law_right : mg "_law_right" = some (.ref A.f_law_right)
  F_law_elsewhere : Fun K "_law_elsewhere" "_law_elsewhere" s_law_elsewhere A.f_law_elsewhere A.d_law_elsewhere
  b_law_elsewhere : Binds K A.d_law_elsewhere ["_law_rules", "_law_many", "_law_rows_here"] []
  g_law_elsewhere : mg "_law_elsewhere" = some (.ref A.f_law_elsewhere)
  F_law : Fun K "law" "law" s_law A.f_law A.d_law
  b_law : Binds K A.d_law ["_law_script"] []
  g_law : mg "law" = some (.ref A.f_law)
  m_Sieve_many : Meth K A.c_Sieve "many" A.f_Sieve_many
  m_Sieve_knots : Meth K A.c_Sieve "knots" A.f_Sieve_knots
  m_Sieve_top : Meth K A.c_Sieve "top" A.f_Sieve_top
  m_Web_good_tie : Meth K A.c_Web "good_tie" A.f_Web_good_tie
  m_Web_size : Meth K A.c_Web "size" A.f_Web_size
  m_Web_ties : Meth K A.c_Web "ties" A.f_Web_ties
  m_Web_at : Meth K A.c_Web "at" A.f_Web_at
  m_Rings_look : Meth K A.c_Rings "look" A.f_Rule_look
  m_Rings_left : Meth K A.c_Rings "left" A.f_Rule_left
  m_Rings_shut_all : Meth K A.c_Rings "shut_all" A.f_Rule_shut_all
  m_Rings_opened : Meth K A.c_Rings "opened" A.f_Rule_opened
  m_Rings_stepped : Meth K A.c_Rings "stepped" A.f_Rule_stepped
  m_Rings_fits : Meth K A.c_Rings "fits" A.f_Rule_fits
  m_Rings_begin : Meth K A.c_Rings "begin" A.f_Rings_begin
  m_Rings_took : Meth K A.c_Rings "took" A.f_Rings_took
  m_Rings_shut : Meth K A.c_Rings "shut" A.f_Rings_shut
  m_Rings_good : Meth K A.c_Rings "good" A.f_Rings_good
  m_Rounds_look : Meth K A.c_Rounds "look" A.f_Rule_look
  m_Rounds_left : Meth K A.c_Rounds "left" A.f_Rule_left
  m_Rounds_shut_all : Meth K A.c_Rounds "shut_all" A.f_Rule_shut_all
  m_Rounds_opened : Meth K A.c_Rounds "opened" A.f_Rule_opened
  m_Rounds_stepped : Meth K A.c_Rounds "stepped" A.f_Rule_stepped
  m_Rounds_fits : Meth K A.c_Rounds "fits" A.f_Rule_fits
  m_Rounds_begin : Meth K A.c_Rounds "begin" A.f_Rings_begin
  m_Rounds_took : Meth K A.c_Rounds "took" A.f_Rings_took
  m_Rounds_good : Meth K A.c_Rounds "good" A.f_Rings_good
  m_Rounds_shut : Meth K A.c_Rounds "shut" A.f_Rounds_shut
  z_len : mg "len" = Option.none
  z_list : mg "list" = Option.none
  z_tuple : mg "tuple" = Option.none
  z_range : mg "range" = Option.none
  z_enumerate : mg "enumerate" = Option.none
  z_sorted : mg "sorted" = Option.none
  z_reversed : mg "reversed" = Option.none
  z_min : mg "min" = Option.none
  z_max : mg "max" = Option.none
  z_int : mg "int" = Option.none
  z_all : mg "all" = Option.none
  z_isinstance : mg "isinstance" = Option.none
  k_MOST_TIES_making : ∃ t, mg "MOST_TIES_making" = some (.int 12 t)
  k_AMID : ∃ t, mg "AMID" = some (.int (-1) t)
  k_MOST_POINTS : ∃ t, mg "MOST_POINTS" = some (.int 10 t)
  k_MOST_TIES_webs : ∃ t, mg "MOST_TIES_webs" = some (.int 12 t)
end Fw
end

section
set_option Elab.async false
set_option maxRecDepth 100000
set_option maxHeartbeats 4000000
set_option linter.all false
/-! R: rules that the layer has not: max, min of a tuple; list.remove of a tuple; sorted of triples; d.items() of tuple keys; C() without an __init__. -/
namespace Fw
open PySem PySem.Spec PyProof.Rows L2

/-! ### max(t), min(t) of a pair of ints -/
def rMaxP : List V → Hp → VK → Prop := fun vs H Q => ∃ (a : Addr) (i j : Int), vs = [V.ref a] ∧ H a = some (.tup [.int i, .int j]) ∧ Q (.int (max i j)) H
def rMinP : List V → Hp → VK → Prop := fun vs H Q => ∃ (a : Addr) (i j : Int), vs = [V.ref a] ∧ H a = some (.tup [.int i, .int j]) ∧ Q (.int (min i j)) H
theorem int_of_reads {h : Heap} {v : Value} {n : Int} {bs : List Addr} (r : Reads h v (.int n) bs) : ∃ t, v = .int n t := by
  cases r
  exact ⟨_, rfl⟩
theorem pair_raw {X : Cx} {pins : List (Addr × Obj)} {σ : L2.St} {H : Hp} {s : Shared} {a : Addr} {i j : Int} (I : L2.Inv X pins σ H s) (h : H a = some (.tup [.int i, .int j])) :
    ∃ t u, s.heap.IsTuple a #[.int i t, .int j u] := by
  obtain ⟨_, its, r, o, ho, hc, n, hd⟩ := I.hok a _ h
  cases r with
  | cons r1 r2 =>
    cases r2 with
    | cons r2 r3 =>
      cases r3
      obtain ⟨t1, rfl⟩ := r1
      obtain ⟨t2, rfl⟩ := r2
      exact ⟨t1, t2, o, ho, hc, n, hd⟩
theorem alike_pair (i j : Int) : PySem.W.AlikeAll [.int i, .int j] := by
  refine ⟨fun x hx y hy => ?_, fun x hx => ?_⟩
  · simp only [List.mem_cons, List.not_mem_nil, or_false] at hx hy
    rcases hx with rfl | rfl <;> rcases hy with rfl | rfl <;> rfl
  · simp only [List.mem_cons, List.not_mem_nil, or_false] at hx
    rcases hx with rfl | rfl <;> exact fun z => nomatch z
theorem reads_pair {h : Heap} (i j : Int) (t u : Tok) : ReadsAll h (#[Value.int i t, Value.int j u] : Array Value).toList [.int i, .int j] ([] ++ ([] ++ [])) := .cons (.int i t) (.cons (.int j u) .nil)
theorem cr_maxP {X : Cx} (hc : X.calm = true) (hu : X.A.units + 64 < cLine) : CallR X (.builtin "max") rMaxP := by
  intro pins s σ H vs us Q I r h
  obtain ⟨a, i, j, rfl, ha, q⟩ := h
  obtain ⟨t, u, hl⟩ := pair_raw I ha
  rw [Vals.ref1 r]
  refine PySem.W.max_tuple_data (x := .int i) (xs := [.int j]) (I.ok.hd hc) hl (reads_pair i j t u) (alike_pair i j) (by simp only [PyData.depthAll, PyData.depth]; omega) fun k v h' tk bs _ rv hk => ?_
  have e : PySem.W.maxD (.int i) [.int j] = .int (max i j) := PySem.W.maxD_ints i [j]
  rw [e] at rv
  obtain ⟨t', rfl⟩ := int_of_reads rv
  exact ⟨.int _, H, I.kept hk, ⟨_, rfl⟩, q⟩
theorem cr_minP {X : Cx} (hc : X.calm = true) (hu : X.A.units + 64 < cLine) : CallR X (.builtin "min") rMinP := by
  intro pins s σ H vs us Q I r h
  obtain ⟨a, i, j, rfl, ha, q⟩ := h
  obtain ⟨t, u, hl⟩ := pair_raw I ha
  rw [Vals.ref1 r]
  refine PySem.W.min_tuple_data (x := .int i) (xs := [.int j]) (I.ok.hd hc) hl (reads_pair i j t u) (alike_pair i j) (by simp only [PyData.depthAll, PyData.depth]; omega) fun k v h' tk bs _ rv hk => ?_
  have e : PySem.W.minD (.int i) [.int j] = .int (min i j) := PySem.W.minD_ints i [j]
  rw [e] at rv
  obtain ⟨t', rfl⟩ := int_of_reads rv
  exact ⟨.int _, H, I.kept hk, ⟨_, rfl⟩, q⟩

/-! ### C() of a class without an __init__ -/
structure MkN (K : PySem.W.Frag) (C : Addr) : Prop where
  makes : PySem.W.makesIn K C = true
  init : PySem.W.findIn K (.ref C) "__init__" = some (some (.builtin "object.__init__"))
  kp : PySem.W.keepIn K (.ref C) = true
def tMakeN (C : Addr) : TE := fun _ H Q => ∀ x dx, H x = none → H dx = none → dx ≠ x → Q (.ref x) (upd (upd H dx (.own x)) x (.ins C dx []))

/-! ### for a, b in d.items(), d's keys being tuples -/
def ItiT (d : Addr) (o : Obj) (kvs : List (List Key × V)) : It :=
  ⟨fun i H => H d = some (.frz o (.dT kvs)) ∧ i < kvs.length, fun i H x H' => ∃ T k v q, kvs[i]? = some (k, v) ∧ x = .ref T ∧ H T = none ∧ H q = some (.tup (k.map kV)) ∧ H' = upd H T (.tup [.ref q, v]), fun i H => H d = some (.frz o (.dT kvs)) ∧ kvs.length ≤ i⟩
theorem frzT_raw {X : Cx} {pins : List (Addr × Obj)} {σ : L2.St} {H : Hp} {s : Shared} {d : Addr} {o : Obj} {kvs : List (List Key × V)} (I : L2.Inv X pins σ H s) (h : H d = some (.frz o (.dT kvs))) :
    (d == sysModules) = false ∧ ∃ (es : Array DictEntry) (ep : Nat), o.data = .dict es ep ∧ s.heap.DictRaw d es ep ∧ es.size = kvs.length ∧
      ∀ (i : Nat) (k : List Key) (v : V), kvs[i]? = some (k, v) → ∃ (hi : i < es.size) (q : Addr), es[i].key = .ref q ∧ H q = some (.tup (k.map kV)) ∧ RelV v es[i].val := by
  obtain ⟨hd, z, hs, xs, pr, o', es, ep, ho, hx, hdt, he, _⟩ := I.hok d _ h
  rw [hd] at ho
  cases ho
  have l1 : es.size = xs.length := size_of_entries he
  have l2 : kvs.length = xs.length := Paired.length pr
  refine ⟨hs, es, ep, hdt, ⟨o, hd, hx, hdt⟩, by omega, fun i k v e => ?_⟩
  obtain ⟨b, hb, e1, e2, e3⟩ := paired_get pr e
  have q := entry_at he i
  rw [hb] at q
  obtain ⟨hi, eq⟩ := Array.getElem?_eq_some_iff.mp q
  refine ⟨hi, b.2.1, ?_, e2, ?_⟩
  · rw [eq]; rfl
  · rw [eq]; exact e3
theorem turn_itemsT {P : Program} {w : World} {K : PySem.W.Frag} {d : Addr} {o : Obj} {es : Array DictEntry} {ep : Nat} {kvs : List (List Key × V)} {elts : List Expr} {kk : Nat} {tpos : Pos} (it : Addr) (hod : o.data = .dict es ep) :
    Turn P w K (.Tuple elts kk tpos) (ItiT d o kvs) [it] it (fun i h => ∃ ok ov, IsItemIter h it d i kvs.length ep ok ov) where
  mem := by simp
  obj := fun i h st b hb => by
    have e : b = it := by simpa using hb
    subst e
    obtain ⟨ok, ov, e⟩ := st
    exact ⟨_, e, fun v z => nomatch z⟩
  keep := fun i h h' st k => let ⟨ok, ov, e⟩ := st; ⟨ok, ov, k it (by simp) _ e⟩
  item := by
    intro X hP hw hK hc i pins s σ H E I hf st hg
    subst hP hw hK
    obtain ⟨hd, hi⟩ := hg
    obtain ⟨hs, es', ep', hdt, hr, hsz, ent⟩ := frzT_raw I hd
    obtain ⟨rfl, rfl⟩ := dict_ep hod hdt
    obtain ⟨⟨k, v⟩, hkv⟩ : ∃ p, kvs[i]? = some p := ⟨kvs[i], List.getElem?_eq_getElem hi⟩
    obtain ⟨hie, q, hkey, hq, hval⟩ := ent i k v hkv
    obtain ⟨ok, ov, he⟩ := st
    rw [← hsz] at he
    have hlt : it < s.heap.objs.size := Heap.lt_size he
    refine PySem.wpAny_pyNext_items_item_raw he hr hie fun h' ho hT hz hk => ?_
    refine ⟨_, rfl, wpAny_letOwnedTupleGo_items (s := { s with heap := h' }) ho fun h'' he' sb => ?_⟩
    have hT2 : h''.get? s.heap.objs.size = some { cls := .type "tuple", data := .seq #[es'[i].key, es'[i].val] } := (sb.2 _ (Nat.ne_of_gt hlt)).trans hT
    have new : ObjOk X.prog X.w (upd H s.heap.objs.size (.tup [.ref q, v])) h'' s.heap.objs.size (.tup [.ref q, v]) :=
      ⟨by show 2 ≤ sizeLine; decide, [es'[i].key, es'[i].val], .cons (show es'[i].key = Value.ref q from hkey) (.cons hval .nil), ⟨_, hT2, rfl, _, rfl⟩⟩
    have I1 : L2.Inv X pins σ (upd H s.heap.objs.size (.tup [.ref q, v])) { s with heap := h'' } :=
      I.turnedNew (t' := s.toks) (ch := [it]) (fun b ob hb e => (sb.2 b (by simpa using hb)).trans (hk b ob (by simpa using hb) e)) hf (Nat.le_refl _) new
    refine ⟨.ref s.heap.objs.size, _, I1, rfl, ⟨_, k, v, q, hkv, rfl, I.hok.fresh (Nat.le_refl _), hq, rfl⟩, ⟨es'[i].key, es'[i].val, ?_⟩, fun b hb => ?_⟩
    · rw [← hsz]; exact he'
    · have e : b = it := by simpa using hb
      rw [e, upd_ne (Nat.ne_of_lt hlt)]
      exact (hf it (by simp)).1
  done := by
    intro X hP hw hK hc i pins s σ H E I hf st hg
    subst hP hw hK
    obtain ⟨hd, hi⟩ := hg
    obtain ⟨f0, f1, f2, f3, f4, f5⟩ := hf it (by simp)
    obtain ⟨hs, es', ep', hdt, hr, hsz, ent⟩ := frzT_raw I hd
    obtain ⟨rfl, rfl⟩ := dict_ep hod hdt
    obtain ⟨ok, ov, he⟩ := st
    rw [← hsz] at he
    exact PySem.wpAny_pyNext_items_end_raw (I.ok.hd hc) he hr (by omega) fun h' eb => ⟨rfl, I.turned (t' := s.toks) (fun b ob hb e => eb b ob hb e) f0 f1 f3 f4 f5⟩
  self := fun A i s Q E st h => let ⟨_, _, e⟩ := st; PySem.W.kcp_self e h
def iItemsT (td : TE) : TI := fun σ H R => td σ H fun x H1 => ∃ d o kvs, x = .ref d ∧ H1 d = some (.frz o (.dT kvs)) ∧ R (ItiT d o kvs) H1
theorem pi_itemsT {X : Cx} {e : Expr} {td : TE} {apos cpos : Pos} {elts : List Expr} {kk : Nat} {tpos : Pos} (he : PE X e td) (hbase : attributeBase e "items" X.env (eval e X.env) = eval e X.env := by rfl) (hline : (apos.endLine == cpos.line) = true := by rfl) :
    PI X (.Tuple elts kk tpos) (.Call (.Attribute e "items" apos) [] [] cpos) (iItemsT td) := by
  refine ⟨fun pins s σ H R I h => ?_⟩
  refine wpAny_Call_method (T := "dict") (id := "dict.items") hbase rfl hline F.plainAttrs_dict F.slot_dict_items F.type_dict_items (thn (he.run pins s σ H _ I h) fun u s1 ⟨x, H1, I1, rx, d, o, kvs, ex, hd, q⟩ => ?_)
  subst ex
  obtain rfl : u = Value.ref d := rx
  obtain ⟨hs, es, ep, hdt, hr, hsz, _⟩ := frzT_raw I1 hd
  have hx : s1.heap.get? d = some o ∧ o.ExactDict := by
    obtain ⟨o', ho', hx', _⟩ := id hr
    have := (I1.hok d _ hd).1
    rw [this] at ho'
    cases ho'
    exact ⟨this, hx'⟩
  have hty : s1.TypeIs (.ref d) "dict" := ⟨o, hx.1, hx.2.1⟩
  refine ⟨hty, ?_, ?_⟩
  · intro a z
    cases z
    exact ⟨o, hx.1, hx.2.2.1⟩
  have I2 : L2.Inv X pins σ H1 { s1 with heap := s1.heap.push { cls := .type "dict_items", data := .fields #[.ref d] } } := I1.kept (t' := s1.toks) fun b ob q => Heap.get?_push_of_some _ q
  have hr2 : Heap.DictRaw (s1.heap.push { cls := .type "dict_items", data := .fields #[.ref d] }) d es ep := by
    obtain ⟨o', a, b, c⟩ := hr
    exact ⟨o', Heap.get?_push_of_some _ a, b, c⟩
  have fin : wpAny (model X.prog X.w) X.A (pyIter (.ref s1.heap.objs.size)) (PIE X pins σ (.Tuple elts kk tpos) R) X.xe { s1 with heap := s1.heap.push { cls := .type "dict_items", data := .fields #[.ref d] } } := by
    refine PySem.wpAny_pyIter_items_raw (d := d) ⟨_, Heap.get?_push_size _ rfl, rfl, rfl⟩ hr2 (pi_one (tk := s1.toks) I2 _ (turn_itemsT _ hdt) ⟨.none, .none, ?_⟩ q)
    rw [← hsz]
    exact Heap.get?_push_size _ rfl
  show wpAny _ _ (callWith cpos (.builtin "dict.items") [.ref d] [] []) _ X.xe s1
  exact method_meetsIn F.slot_dict_items F.entry_dict_items rfl (PySem.evalArgs_none ⟨rfl, hty, F.args_dict_items_1 _, _, PySem.meets_dict_items_raw d hs, ⟨es, ep, hr⟩, fin⟩)
def rRemD (K : PySem.W.Frag) : V → List V → Hp → VK → Prop := fun x xs H Q => ∃ (l : Addr) (vs : List V) (y : V) (d : PyData) (ds : List PyData) (j : Nat), x = .ref l ∧ xs = [y] ∧ H l = some (.lst vs) ∧ DpAll K H vs ds ∧ Dp K H y d ∧
  PyData.plainAll ds = true ∧ d.plain = true ∧ PyData.depthAll ds ≤ 60 ∧ PySem.SeqAt.dataPlace ds d = some j ∧ Q .non (upd H l (.lst (vs.eraseIdx j)))
theorem mt_removeD {X : Cx} (hu : X.A.units + 64 < cLine) : MtR X "list.remove" (rRemD X.K) := by
  intro pins s σ H x xs v us Q I rx rxs h
  obtain ⟨l, vs, y, d, ds, j, rfl, rfl, hH, hds, hy, p1, p2, hdep, hj, q⟩ := h
  cases rx
  obtain ⟨u, rfl, ru⟩ := rxs.one
  obtain ⟨z, its, n, r, hl, e⟩ := I.lstM hH
  obtain ⟨as, ra⟩ := Dp.readsAll I ds vs its hds r
  obtain ⟨bs, rb⟩ := Dp.reads I d y u hy ru
  refine PySem.SeqAt.remove_list_data (vs := its.toArray) (j := j) ⟨_, e, rfl, n, rfl⟩ ra rb p1 p2 (by omega) hj (by rw [List.size_toArray]; omega) ?_
  refine ⟨.non, _, I.lset (its' := its.eraseIdx j) (t' := s.toks) hH e ?_ (r.eraseIdx j) ?_, rfl, q⟩
  · show its.toArray.eraseIdxIfInBounds j = (its.eraseIdx j).toArray
    rw [List.eraseIdxIfInBounds_toArray]
  · exact Nat.le_trans (List.length_eraseIdx_le _ _) z

/-! ### C() -/
theorem pe_makeN {X : Cx} {C : Addr} {x : Str} {p pos : Pos} (M : MkN X.K C) (hg : Gl X x) (hm : X.mg x = some (.ref C)) (hdb : (x == ("__debug__" : Str)) = false := by decide) : PE X (.Call (.Name x p) [] [] pos) (tMakeN C) := by
  refine ⟨fun pins s σ H Q I h => ?_⟩
  refine wpAny_Call_Name_kw (ld_glob I hg hm ?_ hdb)
  refine PySem.W.callWith_K0 I.kIn M.kp ?_
  have hq := h (s.heap.objs.size + 1) s.heap.objs.size (I.hok.fresh (Nat.le_succ _)) (I.hok.fresh (Nat.le_refl _)) (Nat.ne_of_lt (Nat.lt_succ_self _))
  have I2 := L2.Inv.made (C := C) I
  have Y := PySem.W.makes_of (M := model X.prog X.w) I.kIn M.makes
  refine wpAny_call (make_map0 I.kIn M.makes M.init (fun self => PySem.W.Looks.of_pure (PySem.W.oi_bind self)) ?_)
  obtain ⟨hh, g, dr, tk, os⟩ := s
  have t1 : PySem.W.Looks (model X.prog X.w) ((hh.push PySem.W.emptyDict).push (PySem.W.instObj C hh.objs.size)) (typeOf (.ref (hh.objs.size + 1))) (.ref C) := by
    have e2 : ((hh.push PySem.W.emptyDict).push (PySem.W.instObj C hh.objs.size)).get? (hh.objs.size + 1) = some (PySem.W.instObj C hh.objs.size) := by
      have := Heap.get?_push_size (hh.push PySem.W.emptyDict) (o := PySem.W.instObj C hh.objs.size) rfl
      rwa [Heap.size_push] at this
    exact (PySem.W.Looks.ld e2).andThen .now
  have t2 : PySem.W.Looks (model X.prog X.w) ((hh.push PySem.W.emptyDict).push (PySem.W.instObj C hh.objs.size)) (isInstance (.ref (hh.objs.size + 1)) (.type "object")) true :=
    t1.andThen (Y.top.keeps fun b o e => Heap.get?_push_of_some _ (Heap.get?_push_of_some _ e))
  refine PySem.codeAny_call_builtin PySem.W.oi_plain PySem.W.entry_oi (@PySem.W.check_slot (model X.prog X.w) _ _ _ "object.__init__" "object" "__init__" (.ref (hh.objs.size + 1)) [] [] _ PySem.W.oi_kind PySem.W.oi_split t2 (PySem.W.oi_args (.ref (hh.objs.size + 1))) ?_)
  rw [PySem.W.oi_run]
  exact wpAny_pure (And.intro rfl (show EP X pins σ Q (Value.ref (hh.objs.size + 1)) _ from ⟨V.ref (hh.objs.size + 1), _, I2, rfl, hq⟩))

/-! ### sorted(xs) of triples of ints, any number of them: some arrangement -/
def IsTri (h : Heap) (v : Value) (k : Int × Int × Int) : Prop := ∃ a o t u r n, v = .ref a ∧ h.get? a = some o ∧ o.cls = .type "tuple" ∧ o.data = .seq #[.int k.1 t, .int k.2.1 u, .int k.2.2 r] n
theorem IsTri.keeps {h h' : Heap} {v : Value} {k : Int × Int × Int} (p : IsTri h v k) (kk : ∀ b o, h.get? b = some o → o.cls = .type "tuple" → h'.get? b = some o) : IsTri h' v k := by
  obtain ⟨a, o, t, u, r, n, e, ho, hc, hd⟩ := p
  exact ⟨a, o, t, u, r, n, e, kk _ _ ho hc, hc, hd⟩
def lex3 (p q : Int × Int × Int) : Bool := if p.1 = q.1 then (if p.2.1 = q.2.1 then decide (p.2.2 < q.2.2) else decide (p.2.1 < q.2.1)) else decide (p.1 < q.1)
theorem lex3_iff {p q : Int × Int × Int} : lex3 p q = true ↔ p.1 < q.1 ∨ (p.1 = q.1 ∧ (p.2.1 < q.2.1 ∨ (p.2.1 = q.2.1 ∧ p.2.2 < q.2.2))) := by
  unfold lex3
  by_cases e : p.1 = q.1
  · rw [if_pos e]
    by_cases e2 : p.2.1 = q.2.1
    · rw [if_pos e2, decide_eq_true_eq]; omega
    · rw [if_neg e2, decide_eq_true_eq]; omega
  · rw [if_neg e, decide_eq_true_eq]; omega
theorem lex3_no {p q : Int × Int × Int} : lex3 p q = false ↔ ¬ (p.1 < q.1 ∨ (p.1 = q.1 ∧ (p.2.1 < q.2.1 ∨ (p.2.1 = q.2.1 ∧ p.2.2 < q.2.2)))) := by
  rw [← lex3_iff]
  cases lex3 p q <;> simp
theorem swo_lex3 (k : Value → Int × Int × Int) : SrtO.Swo fun v u => lex3 (k v) (k u) := by
  refine ⟨fun x y h => ?_, fun x y z h1 h2 => ?_⟩
  · have a := lex3_iff.mp h
    refine lex3_no.mpr ?_
    omega
  · have a := lex3_no.mp h1
    have b := lex3_no.mp h2
    refine lex3_no.mpr ?_
    omega
section
variable {prog : Program} {w : World} {A : Around} {E : Value → Shared → Prop} {s : Shared}
theorem tri_cmp {vs : List Value} {k : Value → Int × Int × Int} (hp : ∀ v ∈ vs, IsTri s.heap v (k v)) : SrtO.Cmp prog w A s (tuples' true) (fun p => p.1 ∈ vs) (SrtO.lt2 fun v u => lex3 (k v) (k u)) := by
  intro p q hm hm'
  have h1 := hp _ hm
  have h2 := hp _ hm'
  show wpAny (model prog w) A (keyLt' (tuples' true) p.1 q.1) (fun r s' => s' = s ∧ r = lex3 (k p.1) (k q.1)) (fun _ _ => False) s
  generalize k p.1 = x at h1 ⊢
  generalize k q.1 = y at h2 ⊢
  obtain ⟨x1, x2, x3⟩ := x
  obtain ⟨y1, y2, y3⟩ := y
  obtain ⟨a, o, t, u, r, n, e, ho, hc, hd⟩ := h1
  obtain ⟨a', o', t', u', r', n', e', ho', hc', hd'⟩ := h2
  rw [e, e']
  refine PySem.W.kat_lt ho hd ho' hd' ?_
  show PySem.W.KatLex prog w A true (decide (3 < 3)) _ [(.int x1 t, .int y1 t'), (.int x2 u, .int y2 u'), (.int x3 r, .int y3 r')] 0 s
  refine PySem.W.kat_cons (SeqAt.EqAt.int_int x1 t y1 t' prog w _ _ ?_)
  refine PySem.W.kat_go (fun e1 => ?_) (fun e1 => ?_)
  · have ex : x1 = y1 := by simpa using e1
    refine PySem.W.kat_yes (PySem.W.kat_cons (SeqAt.EqAt.int_int x2 u y2 u' prog w _ _ ?_))
    refine PySem.W.kat_go (fun e2 => ?_) (fun e2 => ?_)
    · have ey : x2 = y2 := by simpa using e2
      refine PySem.W.kat_yes (PySem.W.kat_cons (SeqAt.EqAt.int_int x3 r y3 r' prog w _ _ ?_))
      refine PySem.W.kat_go (fun e3 => ?_) (fun e3 => ?_)
      · have ez : x3 = y3 := by simpa using e3
        have e4 : lex3 (x1, x2, x3) (y1, y2, y3) = false := lex3_no.mpr (by simp only; omega)
        exact PySem.W.kat_yes (PySem.W.kat_nil ⟨rfl, e4.symm⟩)
      · have e4 : lex3 (x1, x2, x3) (y1, y2, y3) = decide (x3 < y3) := by unfold lex3; rw [if_pos ex, if_pos ey]
        refine PySem.W.kat_no (PySem.W.kat_one _ _ (PyProof.Rows.lt_int ?_))
        exact (show s = s ∧ decide (x3 < y3) = lex3 (x1, x2, x3) (y1, y2, y3) from ⟨rfl, e4.symm⟩)
    · have ey : ¬ x2 = y2 := by simpa using e2
      have e4 : lex3 (x1, x2, x3) (y1, y2, y3) = decide (x2 < y2) := by unfold lex3; rw [if_pos ex, if_neg ey]
      refine PySem.W.kat_no (PySem.W.kat_one _ _ (PyProof.Rows.lt_int ?_))
      exact (show s = s ∧ decide (x2 < y2) = lex3 (x1, x2, x3) (y1, y2, y3) from ⟨rfl, e4.symm⟩)
  · have ex : ¬ x1 = y1 := by simpa using e1
    have e4 : lex3 (x1, x2, x3) (y1, y2, y3) = decide (x1 < y1) := by unfold lex3; rw [if_neg ex]
    exact PySem.W.kat_no (oneLt_int ⟨rfl, e4.symm⟩)
theorem tri_firsts {h : Heap} : ∀ {vs : List Value}, (∀ v ∈ vs, ∃ k, IsTri h v k) → ∃ fs : List Value, PySem.W.KatTups h vs fs ∧ fs.length = vs.length ∧ ∀ f ∈ fs, ∃ x t, f = Value.int x t
  | [], _ => ⟨[], PySem.W.KatTups.nil, rfl, fun _ hm => by simp at hm⟩
  | v :: vs, hp => by
    obtain ⟨fs, h1, h2, h3⟩ := tri_firsts (vs := vs) fun v' hm => hp v' (List.mem_cons_of_mem _ hm)
    obtain ⟨k, a, o, t, u, r, n, e, ho, hc, hd⟩ := hp v (List.mem_cons_self ..)
    subst e
    refine ⟨.int k.1 t :: fs, PySem.W.KatTups.cons ho hc hd rfl h1, by rw [List.length_cons, List.length_cons, h2], fun f hm => ?_⟩
    rcases List.mem_cons.mp hm with rfl | hm
    · exact ⟨k.1, t, rfl⟩
    · exact h3 f hm
theorem tri_sortable {a : Addr} {vs : List Value} {k : Value → Int × Int × Int} (h0 : 0 < vs.length) (hp : ∀ v ∈ vs, IsTri s.heap v (k v)) (ha : ∀ o, s.heap.get? a = some o → o.cls ≠ .type "tuple") : SrtO.SortableO prog w A s a vs fun v u => lex3 (k v) (k u) := by
  intro h' keep
  have hp' : ∀ v ∈ vs, IsTri h' v (k v) := fun v hm => (hp v hm).keeps fun b o e c => keep b o (fun z => by subst z; exact ha o e c) e
  obtain ⟨fs, h1, h2, h3⟩ := tri_firsts fun v hm => ⟨_, hp' v hm⟩
  refine ⟨tuples' true, fun Q E hq => ?_, tri_cmp hp'⟩
  refine PySem.W.kat_kind (T := .type "int") h1 (by omega) (fun f hm => ?_) (by rfl) ?_
  · obtain ⟨x, t, rfl⟩ := h3 f hm
    exact PySem.W.Looks.now
  · have e : (Value.type "int" != Value.type "tuple") = true := by first | decide +kernel | rfl | decide
    rw [e]
    exact hq
theorem sorted_tris {l : Addr} {vs : List Value} {k : Value → Int × Int × Int} {Q : Value → Shared → Prop} (hl : s.heap.IsList l vs.toArray) (hz : vs.length ≤ sizeLine) (hp : ∀ v ∈ vs, IsTri s.heap v (k v))
    (h : ∀ (h' : Heap) (d : Addr) (out : List Value), out.Perm vs → (∀ b o, s.heap.get? b = some o → h'.get? b = some o) → s.heap.objs.size ≤ d → (∃ n, h'.get? d = some (seqObj "list" out.toArray n)) → Q (.ref d) { s with heap := h' }) :
    wpAny (model prog w) A (call (.builtin "sorted") [.ref l]) Q E s := by
  refine SrtO.sorted_ord (swo_lex3 k) hl hz (fun h2 h₁ a ha kk => ?_) fun out hs hb => ?_
  · refine tri_sortable (s := { s with heap := h₁ }) (by omega) (fun v hm => (hp v hm).keeps fun b o e _ => (kk b o e).2) fun o e => ?_
    have e' : some o = some (seqObj "list" vs.toArray 0) := e.symm.trans ha
    cases e'
    intro c
    exact absurd (Value.type.inj c) (by decide)
  · exact h _ _ out hb.perm (fun b o e => sortedAll_old e) (Nat.le_succ _) (sortedAll_at s.heap vs out.toArray)
end
def rSorted3 (K : PySem.W.Frag) : List V → Hp → VK → Prop := fun vs H Q => ∃ (a : Addr) (xs : List V), vs = [V.ref a] ∧ SqL K H a xs ∧ (∀ x ∈ xs, ∃ t i j k, x = V.ref t ∧ H t = some (.tup [.int i, .int j, .int k])) ∧
  ∀ ys p, ys.Perm xs → H p = none → Q (.ref p) (upd H p (.lst ys))
theorem cr_sorted3 {X : Cx} : CallR X (.builtin "sorted") (rSorted3 X.K) := by
  intro pins s σ H vs us Q I r h
  obtain ⟨a, xs, rfl, hs, hx, q⟩ := h
  obtain ⟨its, rv, hl, hz⟩ := I.list hs
  rw [Vals.ref1 r]
  obtain ⟨e1, e2⟩ := refs_back rv fun x m => by
    obtain ⟨t, _, _, _, e, _⟩ := hx x m
    exact ⟨t, e⟩
  have key : ∀ v ∈ its, ∃ k, IsTri s.heap v k := fun v hv => by
    obtain ⟨t, rfl⟩ := e2 v hv
    have hm : V.ref t ∈ xs := by rw [e1]; exact List.mem_map.mpr ⟨_, hv, rfl⟩
    obtain ⟨t', i, j, k, e, ht⟩ := hx _ hm
    cases e
    obtain ⟨_, its2, r2, o, ho, hc, n, hd⟩ := I.hok _ _ ht
    cases r2 with
    | cons q1 r2 =>
      cases r2 with
      | cons q2 r2 =>
        cases r2 with
        | cons q3 r2 =>
          cases r2
          obtain ⟨t1, rfl⟩ := q1
          obtain ⟨t2, rfl⟩ := q2
          obtain ⟨t3, rfl⟩ := q3
          exact ⟨(i, j, k), t, o, t1, t2, t3, n, rfl, ho, hc, hd⟩
  have ⟨kf, hkf⟩ : ∃ kf : Value → Int × Int × Int, ∀ v ∈ its, IsTri s.heap v (kf v) :=
    open Classical in ⟨fun v => if h : ∃ k, IsTri s.heap v k then h.choose else (0, 0, 0), fun v hv => by
      have := key v hv
      simp only [dif_pos this]
      exact this.choose_spec⟩
  refine sorted_tris (k := kf) hl.isList (by rw [← rv.length]; exact hz) hkf fun h' d out h2 kp hd hn => ?_
  have h3 : ∀ u ∈ out, ∃ a, u = Value.ref a := fun u hu => e2 u (h2.mem_iff.mp hu)
  obtain ⟨n, hn⟩ := hn
  have hb : (out.map backV).Perm xs := by
    rw [e1]
    exact h2.map backV
  refine ⟨.ref d, upd H d (.lst (out.map backV)), I.laid (t' := s.toks) kp hd ⟨?_, out, n, vals_back h3, hn⟩, rfl, q _ d hb (I.hok.fresh hd)⟩
  rw [hb.length_eq]
  exact hz
end Fw
end

section
set_option Elab.async false
set_option maxRecDepth 100000
set_option maxHeartbeats 4000000
set_option linter.all false
/-! B1: what stands in the heap: tuples of ints, lists of them; the rules over one K. -/
namespace Fw
open PySem PySem.Spec PyProof.Rows L2

/-! ### the layer's rules, K said -/
section
variable {X : Cx} {K : PySem.W.Frag}
theorem ixl (h : X.K = K := by rfl) : IxR X (rIxL K) := h ▸ ix_list
theorem ixt (h : X.K = K := by rfl) : IxR X (rIxT K) := h ▸ ix_tup
theorem inq (h : X.K = K := by rfl) : OpR X (compareOp .In) (rIn K false) := h ▸ op_in_seq
theorem niq (h : X.K = K := by rfl) : OpR X (compareOp .NotIn) (rIn K true) := h ▸ op_notIn_seq
theorem eqd (hu : X.A.units + 64 < cLine) (h : X.K = K := by rfl) : OpR X (compareOp .Eq) (rEqD K) := h ▸ op_eqD hu
theorem ned (hu : X.A.units + 64 < cLine) (h : X.K = K := by rfl) : OpR X (compareOp .NotEq) (rNeD K) := h ▸ op_neD hu
theorem ind (hu : X.A.units + 65 < cLine) (h : X.K = K := by rfl) : OpR X (compareOp .In) (rInD K) := h ▸ op_inD hu
def rLen (K : PySem.W.Frag) : List V → Hp → VK → Prop := fun xs H Q => ∃ p ys, xs = [.ref p] ∧ (SqL K H p ys ∨ SqT K H p ys) ∧ Q (.int ys.length) H
theorem lens (h : X.K = K := by rfl) : CallR X (.builtin "len") (rLen K) := h ▸ call_len_seq
def rLst (K : PySem.W.Frag) : List V → Hp → VK → Prop := fun xs H Q => ∃ p ys, xs = [.ref p] ∧ (SqL K H p ys ∨ SqT K H p ys) ∧ ∀ l, H l = none → Q (.ref l) (upd H l (.lst ys))
theorem lstof (h : X.K = K := by rfl) : CallR X (.type "list") (rLst K) := h ▸ call_list_of
def rTupOf (K : PySem.W.Frag) : List V → Hp → VK → Prop := fun xs H Q => ∃ p ys, xs = [.ref p] ∧ SqL K H p ys ∧ ∀ l, H l = none → Q (.ref l) (upd H l (.tup ys))
theorem tupof (h : X.K = K := by rfl) : CallR X (.type "tuple") (rTupOf K) := by
  subst h
  intro pins s σ H xs us Q I r hq
  obtain ⟨p, ys, e, hl, q⟩ := hq
  exact call_tuple_of pins s σ H xs us Q I r ⟨p, ys, e, .inl ⟨hl, q⟩⟩
theorem sll (h : X.K = K := by rfl) : SlR X (rSlL K) := h ▸ sl_list
theorem slt (h : X.K = K := by rfl) : SlR X (rSlA K) := h ▸ sl_tupA
theorem catt (h : X.K = K := by rfl) : OpR X (binaryOp .Add) (rCatA K) := h ▸ op_catA
theorem alls (hc : X.calm = true) (h : X.K = K := by rfl) : CallR X (.builtin "all") (rAll K) := h ▸ cr_all hc
theorem pil {tg l : Expr} {tl : TE} (hl : PE X l tl) (h : X.K = K := by rfl) : PI X tg l (iList K tl) := h ▸ pi_list hl
theorem pit {tg l : Expr} {tl : TE} (hl : PE X l tl) (h : X.K = K := by rfl) : PI X tg l (iTup K tl) := h ▸ pi_tup hl
theorem pgt {es : List Expr} {k : Nat} {pos : Pos} {t : TGs} {n : Nat} (hc : X.calm = true) (h : PGs X es t) (hn : (assignEach es X.env).length = n := by rfl) (hst : (assignEach es X.env).findIdx? (·.1) = none := by rfl) (hK : X.K = K := by rfl) : PG X (.Tuple es k pos) (gTup K n t) := by
  subst hK
  exact pg_tup hc h hn hst
theorem pien {e : Expr} {ta : TA} {p pos tpos : Pos} {elts : List Expr} {kk : Nat} (hg : Gl X "enumerate") (hm : X.mg "enumerate" = none) (ha : PA X [e] ta) (hs : starEach [e] X.env = [(false, eval e X.env)] := by rfl) (hK : X.K = K := by rfl) :
    PI X (.Tuple elts kk tpos) (.Call (.Name "enumerate" p) [e] [] pos) (iEnum K ta) := by
  subst hK
  exact pi_enum hg hm ha hs
theorem pirv {tg e : Expr} {ta : TA} {p pos : Pos} (hg : Gl X "reversed") (hm : X.mg "reversed" = none) (ha : PA X [e] ta) (hs : starEach [e] X.env = [(false, eval e X.env)] := by rfl) (hK : X.K = K := by rfl) : PI X tg (.Call (.Name "reversed" p) [e] [] pos) (iRev K ta) := by
  subst hK
  exact pi_reversed hg hm ha hs
theorem fldK {e : Expr} {f : Str} {pos : Pos} {ta : TE} (he : PE X e ta) (hb : attributeBase e f X.env (eval e X.env) = eval e X.env) (hK : X.K = K := by rfl) : PE X (.Attribute e f pos) (tFld K ta f) := hK ▸ pe_fld he hb
end

/-! ### what stands in the heap -/
/-- a tuple of ints -/
def IT (H : Hp) (v : V) (ns : List Int) : Prop := ∃ a, v = .ref a ∧ H a = some (.tup (ns.map V.int))
/-- tuples are kept -/
def KT (H H' : Hp) : Prop := ∀ b xs, H b = some (.tup xs) → H' b = some (.tup xs)
theorem KT.refl (H : Hp) : KT H H := fun _ _ h => h
theorem KT.trans {H H1 H2 : Hp} (a : KT H H1) (b : KT H1 H2) : KT H H2 := fun c o h => b c o (a c o h)
theorem _root_.L2.Same.kt {H H' : Hp} (s : Same H H') : KT H H' := fun b xs h => s b _ h
theorem KT.new {H : Hp} {p : Addr} {o : HO} (h : H p = Option.none) : KT H (upd H p o) := fun b xs e => by
  rw [upd_ne (ne_of_none e h)]; exact e
def NTup : HO → Prop
  | .tup _ => False
  | _ => True
theorem KT.mut {H : Hp} {p : Addr} {o u : HO} (h : H p = some u) (nt : NTup u) : KT H (upd H p o) := fun b xs e => by
  have : b ≠ p := fun z => by subst z; rw [h] at e; cases e; exact nt
  rw [upd_ne this]; exact e
theorem Same_new {H : Hp} {p : Addr} {o : HO} (h : H p = Option.none) : Same H (upd H p o) := fun b u e => by
  rw [upd_ne (ne_of_none e h)]; exact e
theorem _root_.L2.Same.mut {H H' : Hp} {p : Addr} {o : HO} (s : Same H H') (h : H p = Option.none) : Same H (upd H' p o) := fun b u e => by
  rw [upd_ne (ne_of_none e h)]; exact s b u e
theorem _root_.L2.Same.newer {H H' : Hp} {p : Addr} {o : HO} (s : Same H H') (h : H' p = Option.none) : Same H (upd H' p o) := s.mut (s.free h)
theorem IT.kt {H H' : Hp} {v : V} {ns : List Int} (h : IT H v ns) (k : KT H H') : IT H' v ns := let ⟨a, e, q⟩ := h; ⟨a, e, k _ _ q⟩
abbrev ITs (H : Hp) (vs : List V) (L : List (List Int)) : Prop := Paired (IT H) vs L
theorem ITs.kt {H H' : Hp} {vs : List V} {L : List (List Int)} (h : ITs H vs L) (k : KT H H') : ITs H' vs L := Paired.mapP h fun _ _ q => q.kt k
theorem ITs.len {H : Hp} {vs : List V} {L : List (List Int)} (h : ITs H vs L) : vs.length = L.length := Paired.length h
theorem ITs.get {H : Hp} : ∀ {vs : List V} {L : List (List Int)}, ITs H vs L → ∀ {i : Nat} {v : V}, vs[i]? = some v → ∃ ns, L[i]? = some ns ∧ IT H v ns
  | _, _, .nil, i, v, h => by simp at h
  | _, _, .cons a t, 0, v, h => by simp at h; subst h; exact ⟨_, by simp, a⟩
  | _, _, .cons a t, i + 1, v, h => by simpa using ITs.get t (i := i) (by simpa using h)
theorem ITs.at {H : Hp} {vs : List V} {L : List (List Int)} (h : ITs H vs L) {i : Nat} {ns : List Int} (e : L[i]? = some ns) : ∃ v, vs[i]? = some v ∧ IT H v ns := by
  have hl := h.len
  have hi := (List.getElem?_eq_some_iff.mp e).1
  have e2 : vs[i]? = some vs[i] := List.getElem?_eq_getElem (by omega)
  obtain ⟨ms, e3, q⟩ := h.get e2
  rw [e] at e3
  cases e3
  exact ⟨_, e2, q⟩
theorem ITs.app {H : Hp} {vs us : List V} {L M : List (List Int)} (h : ITs H vs L) (g : ITs H us M) : ITs H (vs ++ us) (L ++ M) := by
  induction h with
  | nil => exact g
  | cons a t ih => exact .cons a ih
theorem ITs.snoc {H : Hp} {vs : List V} {L : List (List Int)} {v : V} {ns : List Int} (h : ITs H vs L) (g : IT H v ns) : ITs H (vs ++ [v]) (L ++ [ns]) := h.app (.cons g .nil)
/-- a list of tuples of ints, our own -/
def LL (H : Hp) (p : Addr) (L : List (List Int)) : Prop := ∃ vs, H p = some (.lst vs) ∧ ITs H vs L
theorem LL.kt {H H' : Hp} {p : Addr} {L : List (List Int)} (h : LL H p L) (k : KT H H') (e : H' p = H p) : LL H' p L := let ⟨vs, a, b⟩ := h; ⟨vs, e.trans a, b.kt k⟩
theorem LL.same {H H' : Hp} {p : Addr} {L : List (List Int)} (h : LL H p L) (s : Same H H') : LL H' p L := let ⟨vs, a, b⟩ := h; ⟨vs, s _ _ a, b.kt s.kt⟩
theorem LL.sq {K : PySem.W.Frag} {H : Hp} {p : Addr} {L : List (List Int)} (h : LL H p L) : ∃ vs, SqL K H p vs ∧ ITs H vs L := let ⟨vs, a, b⟩ := h; ⟨vs, SqL.of a, b⟩

/-! ### as data -/
def dT (ns : List Int) : PyData := .tuple (ns.map PyData.int)
def dL (L : List (List Int)) : PyData := .list (L.map dT)
section
variable {K : PySem.W.Frag} {H : Hp}
theorem dpInts : ∀ ns : List Int, DpAll K H (ns.map V.int) (ns.map PyData.int)
  | [] => .nil
  | n :: ns => .cons (.int n) (dpInts ns)
theorem IT.dp {v : V} {ns : List Int} (h : IT H v ns) : Dp K H v (dT ns) := by
  obtain ⟨a, rfl, e⟩ := h
  exact .tup (SqT.of e) (dpInts ns)
theorem ITs.dp {vs : List V} {L : List (List Int)} (h : ITs H vs L) : DpAll K H vs (L.map dT) := by
  induction h with
  | nil => exact .nil
  | cons a t ih => exact .cons a.dp ih
theorem LL.dp {p : Addr} {L : List (List Int)} (h : LL H p L) : Dp K H (.ref p) (dL L) := by
  obtain ⟨vs, a, b⟩ := h
  exact .lst (SqL.of a) b.dp
theorem dpIL {p : Addr} {ns : List Int} (h : SqL K H p (ns.map V.int)) : Dp K H (.ref p) (.list (ns.map PyData.int)) := .lst h (dpInts ns)
end
theorem eqvInts : ∀ a b : List Int, PyData.eqvAll (a.map PyData.int) (b.map PyData.int) = decide (a = b)
  | [], [] => rfl
  | [], _ :: _ => rfl
  | _ :: _, [] => rfl
  | x :: a, y :: b => by
    show (PyData.eqv (.int x) (.int y) && PyData.eqvAll (a.map PyData.int) (b.map PyData.int)) = _
    rw [eqvInts a b]
    show ((x == y) && decide (a = b)) = _
    by_cases h : x = y
    · subst h; simp
    · simp [h]
theorem eqvT (a b : List Int) : PyData.eqv (dT a) (dT b) = decide (a = b) := eqvInts a b
theorem eqvTs : ∀ a b : List (List Int), PyData.eqvAll (a.map dT) (b.map dT) = decide (a = b)
  | [], [] => rfl
  | [], _ :: _ => rfl
  | _ :: _, [] => rfl
  | x :: a, y :: b => by
    show (PyData.eqv (dT x) (dT y) && PyData.eqvAll (a.map dT) (b.map dT)) = _
    rw [eqvTs a b, eqvT]
    by_cases h : x = y
    · subst h; simp
    · simp [h]
theorem eqvL (a b : List (List Int)) : PyData.eqv (dL a) (dL b) = decide (a = b) := eqvTs a b
theorem eqvIL (a b : List Int) : PyData.eqv (.list (a.map PyData.int)) (.list (b.map PyData.int)) = decide (a = b) := eqvInts a b
theorem layInts : ∀ a : List Int, PyData.canLayAll0 (a.map PyData.int) = true
  | [] => rfl
  | x :: a => by show (PyData.canLay0 (.int x) && PyData.canLayAll0 (a.map PyData.int)) = true; rw [layInts a]; rfl
theorem layTs : ∀ a : List (List Int), PyData.canLayAll0 (a.map dT) = true
  | [] => rfl
  | x :: a => by show (PyData.canLay0 (dT x) && PyData.canLayAll0 (a.map dT)) = true; rw [layTs a]; show (PyData.canLayAll0 _ && true) = true; rw [layInts]; rfl
theorem depInts : ∀ a : List Int, PyData.depthAll (a.map PyData.int) = 0
  | [] => rfl
  | x :: a => by show max (PyData.depth (.int x)) (PyData.depthAll (a.map PyData.int)) = 0; rw [depInts a]; rfl
theorem depT (a : List Int) : PyData.depth (dT a) = 1 := by show PyData.depthAll _ + 1 = 1; rw [depInts]
theorem depTs : ∀ a : List (List Int), PyData.depthAll (a.map dT) ≤ 1
  | [] => Nat.zero_le _
  | x :: a => by
    show max (PyData.depth (dT x)) (PyData.depthAll (a.map dT)) ≤ 1
    have := depT x
    have := depTs a
    omega
theorem shT (a : List Int) : SeqAt.shaped (dT a) = true := by
  show (PyData.canLayAll0 _ && decide (PyData.depth (dT a) ≤ 64)) = true
  rw [layInts, depT]; rfl
theorem shL (a : List (List Int)) : SeqAt.shaped (dL a) = true := by
  show (PyData.canLayAll0 _ && decide (PyData.depthAll _ + 1 ≤ 64)) = true
  have := depTs a
  rw [layTs, decide_eq_true (by omega)]; rfl
theorem shIL (a : List Int) : SeqAt.shaped (.list (a.map PyData.int)) = true := by
  show (PyData.canLayAll0 _ && decide (PyData.depthAll _ + 1 ≤ 64)) = true
  rw [layInts, depInts]; rfl
theorem plInts : ∀ a : List Int, PyData.plainAll (a.map PyData.int) = true
  | [] => rfl
  | x :: a => by show (PyData.plain (.int x) && PyData.plainAll (a.map PyData.int)) = true; rw [plInts a]; rfl
theorem plT (a : List Int) : PyData.plain (dT a) = true := plInts a
theorem plTs : ∀ a : List (List Int), PyData.plainAll (a.map dT) = true
  | [] => rfl
  | x :: a => by show (PyData.plain (dT x) && PyData.plainAll (a.map dT)) = true; rw [plTs a, plT]; rfl
theorem any_eqv (L : List (List Int)) (x : List Int) : ((L.map dT).any fun z => PyData.eqv z (dT x)) = decide (x ∈ L) := by
  induction L with
  | nil => rfl
  | cons y L ih =>
    show (PyData.eqv (dT y) (dT x) || (L.map dT).any fun z => PyData.eqv z (dT x)) = _
    rw [ih, eqvT]
    by_cases h : y = x
    · subst h; simp
    · simp [h, Ne.symm h]
theorem flatInts : ∀ ns : List Int, (ns.map V.int).all flatV = true
  | [] => rfl
  | n :: ns => by show (flatV (.int n) && (ns.map V.int).all flatV) = true; rw [flatInts ns]; rfl
theorem inInts (x : Int) : ∀ ns : List Int, inV (.int x) (ns.map V.int) = decide (x ∈ ns)
  | [] => rfl
  | n :: ns => by
    show (eqV (.int n) (.int x) || inV (.int x) (ns.map V.int)) = _
    rw [inInts x ns]
    by_cases h : n = x
    · subst h; simp [eqV]
    · simp [eqV, h, Ne.symm h]
theorem atInts {ns : List Int} {i : Nat} {x : Int} (h : ns[i]? = some x) : atI (ns.map V.int) (i : Int) = some (V.int x) := atI_nat (by rw [List.getElem?_map, h]; rfl)
theorem hu65 {A : Around} {k : Nat} (hr : Room k A) : A.units + 65 < cLine := by have := hr.un; omega
/-- all is kept but one instance -/
def But (p : Addr) (H H' : Hp) : Prop := ∀ b o, H b = some o → b ≠ p → H' b = some o
theorem But.sq {K : PySem.W.Frag} {p l C dx : Addr} {fs : List (Str × V)} {H H' : Hp} {us : List V} (b : But p H H') (hp : H p = some (.ins C dx fs)) (h : SqL K H l us) : SqL K H' l us := by
  rcases h with h | h
  · left
    rcases h with h | ⟨o, h⟩
    · exact .inl (b _ _ h (ne_of h hp (by intro z; cases z)))
    · exact .inr ⟨o, b _ _ h (ne_of h hp (by intro z; cases z))⟩
  · exact .inr h
theorem But.kt {p C dx : Addr} {fs : List (Str × V)} {H H' : Hp} (b : But p H H') (hp : H p = some (.ins C dx fs)) : KT H H' := fun c xs h => b _ _ h (ne_of h hp (by intro z; cases z))
theorem But.trans {p : Addr} {H H1 H2 : Hp} (a : But p H H1) (b : Same H1 H2) : But p H H2 := fun c o h q => b _ _ (a c o h q)
theorem But.mut {p q : Addr} {H H1 : Hp} {o : HO} (a : But p H H1) (h : H q = Option.none) : But p H (upd H1 q o) := fun c u e n => by
  rw [upd_ne (ne_of_none e h)]; exact a c u e n
theorem nd_take {α : Type} {l : List α} (nd : l.Nodup) {i : Nat} {x : α} (h : l[i]? = some x) : x ∉ l.take i := by
  intro hm
  obtain ⟨j, hj, e⟩ := List.mem_iff_getElem.mp hm
  rw [List.length_take] at hj
  rw [List.getElem_take] at e
  obtain ⟨hi, e2⟩ := List.getElem?_eq_some_iff.mp h
  have := (List.getElem_inj nd).mp (e.trans e2.symm)
  omega
theorem take_snoc {α : Type} {l : List α} {i : Nat} {x : α} (h : l[i]? = some x) : l.take (i + 1) = l.take i ++ [x] := by
  obtain ⟨hi, e2⟩ := List.getElem?_eq_some_iff.mp h
  rw [List.take_add_one, h]; rfl
theorem iteN {c : Bool} {A B : Prop} (h : c = false) (b : B) : if c = true then A else B := by subst h; exact b
theorem iteY {c : Bool} {A B : Prop} (h : c = true) (a : A) : if c = true then A else B := by subst h; exact a
theorem iteB {c : Bool} {A B : Prop} (h1 : c = true → A) (h2 : c = false → B) : if c = true then A else B := by cases c; exact h2 rfl; exact h1 rfl
theorem yesIf {σ : L2.St} {H : Hp} {A B : Hp → Prop} (h : A H) : tYes σ H (fun b H3 => if b = true then A H3 else B H3) := by
  show if true = true then A H else B H
  rw [if_pos rfl]; exact h
theorem sz {n : Nat} (h : n ≤ 1000000) : n ≤ sizeLine := Nat.le_trans h (by decide)
theorem szl {n : Nat} (h : n ≤ 1000000) : n < sizeLine := Nat.lt_of_le_of_lt h (by decide)
end Fw
end

section
set_option Elab.async false
set_option maxRecDepth 100000
set_option maxHeartbeats 4000000
set_option linter.all false
/-! R2: sorted of a tuple of ints. -/
namespace Fw
open PySem PySem.Spec PyProof.Rows L2
section
variable {prog : Program} {w : World} {A : Around} {E : Value → Shared → Prop} {s : Shared}
theorem collect_tupX {Q : List Value → Shared → Prop} {it : Addr} {o : Obj} {xs : Array Value} {n : Nat} (ho : s.heap.get? it = some o) (hc : o.cls = .type "tuple") (hd : o.data = .seq xs n) (hz : xs.size ≤ sizeLine)
    (hQ : Q xs.toList { s with heap := (s.heap.push (seqObj "list" #[] 0)).update s.heap.objs.size (Obj.mapSeq (· ++ xs)) }) : wpAny (model prog w) A (collect (.ref it)) Q E s := by
  unfold collect
  refine wpAny_bind (wpAny_runValue (codeAny_builtin F.entry_proto_collect ?_)); rw [Around.under_plainId F.plain_proto_collect _]
  show wpAny _ A.in1 (newList [] >>= fun b => again (.builtin "list.__iadd__" ⟨[b, .ref it], []⟩)) _ _ s
  refine wpAny_bind (wpAny_newObj_type (wpAny_pure ⟨plainId_quiet F.plain_list_iadd _, codeAny_builtin F.entry_list_iadd ?_⟩)); rw [Around.under_plainId F.plain_list_iadd _]
  show wpAny _ A.in1 (Builtin.List.listExtendWith (.ref s.heap.objs.size) (.ref it) (.ref s.heap.objs.size)) _ _ { s with heap := s.heap.push (seqObj "list" #[] 0) }
  have a1 : (s.heap.push (seqObj "list" #[] 0)).get? s.heap.objs.size = some (seqObj "list" #[] 0) := Heap.get?_push_size _ rfl
  have a2 := Heap.get?_update_self (Obj.mapSeq (· ++ xs)) a1 rfl
  have last : wpAny (model prog w) A (load s.heap.objs.size >>= fun o => match o.data with
      | Data.seq ys _ => pure ys.toList
      | _ => unsupported "internal:collect") Q E { s with heap := (s.heap.push (seqObj "list" #[] 0)).update s.heap.objs.size (Obj.mapSeq (· ++ xs)) } := by
    refine wpAny_bind (wpAny_load a2 (wpAny_pure ?_))
    have e : ((#[] : Array Value) ++ xs).toList = xs.toList := by simp
    show Q ((#[] : Array Value) ++ xs).toList _
    rw [e]
    exact hQ
  refine wpAny_mono (wpAny_extend_seq (hsz := hz) (A := A) (R := fun r t => r = .ok (.ret (.ref s.heap.objs.size)) ∧ t = { s with heap := (s.heap.push (seqObj "list" #[] 0)).update s.heap.objs.size (Obj.mapSeq (· ++ xs)) })
    (s := { s with heap := s.heap.push (seqObj "list" #[] 0) }) _ it _ 0 (.inr rfl) a1 (Heap.get?_push_of_some _ ho) hc hd ⟨rfl, rfl⟩) (fun fin t h => ?_) (fun e t h => absurd h.1 (by simp))
  cases fin with
  | done f =>
    obtain ⟨e, rfl⟩ := h
    cases e
    exact last
  | again c => exact ⟨h.1, codeAny_mono h.2 fun r t hr => by obtain ⟨rfl, rfl⟩ := hr; exact last⟩
end
def rSortedTI (K : PySem.W.Frag) : List V → Hp → VK → Prop := fun vs H Q => ∃ (a : Addr) (ns : List Int), vs = [V.ref a] ∧ SqT K H a (ns.map V.int) ∧
  ∀ (ms : List Int) (p : Addr), ms.Perm ns → ms.Pairwise (· ≤ ·) → H p = Option.none → Q (.ref p) (upd H p (.lst (ms.map V.int)))
theorem cr_sortedTI {X : Cx} : CallR X (.builtin "sorted") (rSortedTI X.K) := by
  intro pins s σ H vs us Q I r h
  obtain ⟨a, ns, rfl, hs, q⟩ := h
  obtain ⟨its, rv, hl, hz⟩ := I.tuple hs
  rw [Vals.ref1 r]
  have hi := rv.ints
  have hz1 : its.length ≤ sizeLine := by rw [← rv.length]; exact hz
  obtain ⟨o, ho, hc, n, hd⟩ := hl
  refine Calls.call_function_entry kind_sorted plain_sorted entry_sorted (args_sorted1 _) ?_
  unfold Builtin.«sorted»
  refine wpAny_bind (m := checkCount "sorted" 1 1 _) (wpAny_pure (wpAny_bind (collect_tupX ho hc hd (by rw [List.size_toArray]; exact hz1) ?_)))
  refine wpAny_bind (wpAny_newList ?_ hz1)
  have e1 : ((s.heap.push (seqObj "list" #[] 0)).update s.heap.objs.size (Obj.mapSeq (· ++ its.toArray))).objs.size = s.heap.objs.size + 1 := by
    rw [Heap.size_update, size_push']
  have e2 : (((s.heap.push (seqObj "list" #[] 0)).update s.heap.objs.size (Obj.mapSeq (· ++ its.toArray))).push (seqObj "list" its.toArray 0)).get? (s.heap.objs.size + 1) = some (seqObj "list" its.toArray 0) := by
    rw [← e1]
    exact Heap.get?_push_size _ rfl
  show wpAny _ _ _ _ _ { s with heap := ((s.heap.push (seqObj "list" #[] 0)).update s.heap.objs.size (Obj.mapSeq (· ++ its.toArray))).push (seqObj "list" its.toArray 0) }
  rw [e1]
  refine wpAny_bind (wpAny_holding (wpAny_call_entry slot_list_sort ⟨_, e2, rfl⟩ entry_list_sort (SrtO.list_sort_ord SrtO.swo_int e2 hz1 (fun h2 => SrtO.ints_sortable hi h2) fun out h1 h2 => ⟨_, rfl, ?_⟩) (args_list_sort _)))
  refine wpAny_pure ⟨_, rfl, ?_⟩
  obtain ⟨k1, k2, k3⟩ := SrtO.ints_out hi h1 h2
  obtain ⟨ep, he⟩ := sortedAll_at s.heap its out.toArray
  have hlen : ((out.map SrtO.iv).map V.int).length ≤ sizeLine := by
    rw [List.length_map, k2.length_eq, ← List.length_map (f := V.int)]
    exact hz
  exact ⟨.ref _, upd H (s.heap.objs.size + 1) (.lst ((out.map SrtO.iv).map V.int)), I.laid (t' := s.toks) (fun _ _ => sortedAll_old) (Nat.le_succ _) ⟨hlen, out, ep, vals_of_ints k1, he⟩, rfl, q _ _ k2 k3 (I.hok.fresh (Nat.le_succ _))⟩
end Fw
end

section
set_option Elab.async false
set_option maxRecDepth 100000
set_option maxHeartbeats 4000000
set_option linter.all false
/-! B2: the data of the program, the promises of its defs. -/
namespace Fw
open PySem PySem.Spec PyProof.Rows L2

/-! ### plain data -/
abbrev Kn := Nat × Nat × Nat
def rI (r : Nat × Nat) : List Int := [(r.1 : Int), (r.2 : Int)]
def kI (r : Kn) : List Int := [(r.1 : Int), (r.2.1 : Int), (r.2.2 : Int)]
def nI (X : List Nat) : List Int := X.map fun n : Nat => (n : Int)
def bI (b : Bool) : Int := if b then 1 else 0
def stI (s : St) : List Int := s.mates ++ [bI s.closed]
def eW (W : List (Nat × Nat)) (k : Nat) : Nat × Nat := W.getD k (0, 0)
def atP (W : List (Nat × Nat)) (p : Nat) : List Nat := (List.range W.length).filter fun k => inc (eW W) p k
def lastP (W : List (Nat × Nat)) (k : Nat) : List Nat := [(eW W k).1, (eW W k).2].filter fun p => (atP W p).getLast? == some k
def loneP (many : Nat) (W : List (Nat × Nat)) : List Nat := (List.range many).filter fun p => (atP W p).isEmpty
def srt (r : Nat × Nat) : Nat × Nat := (min r.1 r.2, max r.1 r.2)
/-- rows of which a web may be made -/
structure GoodRows (many : Nat) (R : List (Nat × Nat)) : Prop where
  one : 1 ≤ many
  ten : many ≤ 10
  len : R.length ≤ 12
  pts : ∀ r ∈ R, r.1 ≠ r.2 ∧ r.1 < many ∧ r.2 < many
  nd : (R.map srt).Nodup
/-- a web's own rows -/
structure WRows (many : Nat) (W : List (Nat × Nat)) : Prop where
  one : 1 ≤ many
  ten : many ≤ 10
  len : W.length ≤ 12
  pts : ∀ r ∈ W, r.1 ≠ r.2 ∧ r.1 < many ∧ r.2 < many
def StOk (many : Nat) (s : St) : Prop := s.mates.length = many ∧ ∀ x ∈ s.mates, -1 ≤ x ∧ x < many
abbrev accW (all : Bool) (many : Nat) (W : List (Nat × Nat)) (X : List Nat) : Bool :=
  acc (stepM all (eW W) (lastP W)) goodM (fun j => X.contains j) (openedM all many (loneP many W)) 0 W.length
abbrev langW (all : Bool) (many : Nat) (W : List (Nat × Nat)) : List (List Nat) :=
  lang (stepM all (eW W) (lastP W)) goodM (openedM all many (loneP many W)) 0 W.length
/-! graphs -/
def setsGo (F : List (List (List Nat))) (r : Kn) : List (List (List Nat)) := F ++ [F.getD r.2.1 [] ++ (F.getD r.2.2 []).map (r.1 :: ·)]
def knotSets (rows : List Kn) : List (List (List Nat)) := rows.foldl setsGo [[], [[]]]
def setsAt (rows : List Kn) (x : Nat) : List (List Nat) := (knotSets rows).getD x []
def tieAt (n : Nat) (rows : List Kn) (x : Nat) : Nat := if x < 2 then n else (rows.getD (x - 2) (0, 0, 0)).1
def Valid (n : Nat) (rows : List Kn) : Prop := ∀ j r, rows[j]? = some r → r.1 < n ∧ r.2.1 < j + 2 ∧ r.2.2 < j + 2 ∧ r.1 < tieAt n rows r.2.1 ∧ r.1 < tieAt n rows r.2.2

/-! ### objects -/
def webF (many : Int) (l : Addr) : List (Str × V) := putF "rows" (.ref l) (putF "point_count" (.int many) [])
theorem kpr : ¬ (("point_count" : Str) = "rows") := by decide +kernel
theorem krp : ¬ (("rows" : Str) = "point_count") := by decide +kernel
theorem webF_rows (m : Int) (l : Addr) : (webF m l).lookup ("rows" : Str) = some (.ref l) := by
  unfold webF; rw [lookup_putF, if_pos rfl]
theorem webF_pc (m : Int) (l : Addr) : (webF m l).lookup ("point_count" : Str) = some (.int m) := by
  unfold webF; rw [lookup_putF, if_neg kpr, lookup_putF, if_pos rfl]
theorem webF_no (q : Int) (l : Addr) {m : Str} (h1 : ¬ m = "rows") (h2 : ¬ m = "point_count") : (webF q l).lookup m = Option.none := by
  unfold webF; rw [lookup_putF, if_neg h1, lookup_putF, if_neg h2]; rfl
def sieF (n : Int) (l : Addr) (t : Int) : List (Str × V) := putF "start" (.int t) (putF "rows" (.ref l) (putF "wide" (.int n) []))
theorem k_ws : ¬ (("wide" : Str) = "start") := by decide +kernel
theorem k_wr : ¬ (("wide" : Str) = "rows") := by decide +kernel
theorem k_rs : ¬ (("rows" : Str) = "start") := by decide +kernel
theorem sieF_start (n : Int) (l : Addr) (t : Int) : (sieF n l t).lookup ("start" : Str) = some (.int t) := by
  unfold sieF; rw [lookup_putF, if_pos rfl]
theorem sieF_rows (n : Int) (l : Addr) (t : Int) : (sieF n l t).lookup ("rows" : Str) = some (.ref l) := by
  unfold sieF; rw [lookup_putF, if_neg k_rs, lookup_putF, if_pos rfl]
theorem sieF_wide (n : Int) (l : Addr) (t : Int) : (sieF n l t).lookup ("wide" : Str) = some (.int n) := by
  unfold sieF; rw [lookup_putF, if_neg k_ws, lookup_putF, if_neg k_wr, lookup_putF, if_pos rfl]
theorem sieF_no (n : Int) (l : Addr) (t : Int) {m : Str} (h1 : ¬ m = "start") (h2 : ¬ m = "rows") (h3 : ¬ m = "wide") : (sieF n l t).lookup m = Option.none := by
  unfold sieF; rw [lookup_putF, if_neg h1, lookup_putF, if_neg h2, lookup_putF, if_neg h3]; rfl
def cR (A : Ad) : Bool → Addr | false => A.c_Rings | true => A.c_Rounds
def fShut (A : Ad) : Bool → Addr | false => A.f_Rings_shut | true => A.f_Rounds_shut
def dShut (A : Ad) : Bool → FuncData | false => A.d_Rings_shut | true => A.d_Rounds_shut
def WebAt (A : Ad) (H : Hp) (p : Addr) (many : Nat) (W : List (Nat × Nat)) : Prop := ∃ dx l, H p = some (.ins A.c_Web dx (webF many l)) ∧ LL H l (W.map rI)
def SieAt (A : Ad) (H : Hp) (p : Addr) (n : Nat) (rows : List Kn) (t : Nat) : Prop := ∃ dx l, H p = some (.ins A.c_Sieve dx (sieF n l t)) ∧ LL H l (rows.map kI)
def RuleAt (A : Ad) (H : Hp) (p : Addr) (all : Bool) : Prop := ∃ dx, H p = some (.ins (cR A all) dx [])
theorem WebAt.same {A : Ad} {H H' : Hp} {p : Addr} {m : Nat} {W : List (Nat × Nat)} (h : WebAt A H p m W) (s : Same H H') : WebAt A H' p m W := let ⟨dx, l, a, b⟩ := h; ⟨dx, l, s _ _ a, b.same s⟩
theorem SieAt.same {A : Ad} {H H' : Hp} {p : Addr} {n t : Nat} {r : List Kn} (h : SieAt A H p n r t) (s : Same H H') : SieAt A H' p n r t := let ⟨dx, l, a, b⟩ := h; ⟨dx, l, s _ _ a, b.same s⟩
theorem RuleAt.same {A : Ad} {H H' : Hp} {p : Addr} {all : Bool} (h : RuleAt A H p all) (s : Same H H') : RuleAt A H' p all := let ⟨dx, a⟩ := h; ⟨dx, s _ _ a⟩
/-- a state, or None -/
def SV (H : Hp) (v : V) : Option St → Prop
  | Option.none => v = .non
  | some s => IT H v (stI s)
theorem SV.kt {H H' : Hp} {v : V} {o : Option St} (h : SV H v o) (k : KT H H') : SV H' v o := by
  cases o with
  | none => exact h
  | some s => exact IT.kt h k
section
variable {K : PySem.W.Frag} {mg : Str → Option Value} {A : Ad}
theorem Txt.cl_R (T : Txt K mg A) : ∀ all, Cls K (cR A all) | false => T.cl_Rings | true => T.cl_Rounds
theorem Txt.m_R_look (T : Txt K mg A) : ∀ all, Meth K (cR A all) "look" A.f_Rule_look | false => T.m_Rings_look | true => T.m_Rounds_look
theorem Txt.m_R_left (T : Txt K mg A) : ∀ all, Meth K (cR A all) "left" A.f_Rule_left | false => T.m_Rings_left | true => T.m_Rounds_left
theorem Txt.m_R_shut_all (T : Txt K mg A) : ∀ all, Meth K (cR A all) "shut_all" A.f_Rule_shut_all | false => T.m_Rings_shut_all | true => T.m_Rounds_shut_all
theorem Txt.m_R_opened (T : Txt K mg A) : ∀ all, Meth K (cR A all) "opened" A.f_Rule_opened | false => T.m_Rings_opened | true => T.m_Rounds_opened
theorem Txt.m_R_stepped (T : Txt K mg A) : ∀ all, Meth K (cR A all) "stepped" A.f_Rule_stepped | false => T.m_Rings_stepped | true => T.m_Rounds_stepped
theorem Txt.m_R_fits (T : Txt K mg A) : ∀ all, Meth K (cR A all) "fits" A.f_Rule_fits | false => T.m_Rings_fits | true => T.m_Rounds_fits
theorem Txt.m_R_begin (T : Txt K mg A) : ∀ all, Meth K (cR A all) "begin" A.f_Rings_begin | false => T.m_Rings_begin | true => T.m_Rounds_begin
theorem Txt.m_R_took (T : Txt K mg A) : ∀ all, Meth K (cR A all) "took" A.f_Rings_took | false => T.m_Rings_took | true => T.m_Rounds_took
theorem Txt.m_R_good (T : Txt K mg A) : ∀ all, Meth K (cR A all) "good" A.f_Rings_good | false => T.m_Rings_good | true => T.m_Rounds_good
theorem Txt.m_R_shut (T : Txt K mg A) : ∀ all, Meth K (cR A all) "shut" (fShut A all) | false => T.m_Rings_shut | true => T.m_Rounds_shut
theorem Txt.b_R_shut (T : Txt K mg A) : ∀ all, Binds K (dShut A all) ["self", "web", "state", "point"] [] | false => T.b_Rings_shut | true => T.b_Rounds_shut
end

/-! ### promises -/
section
variable (K : PySem.W.Frag) (A : Ad)
def sp_Web_init : Sp := fun vs H Q _ => ∃ (p dx l : Addr) (many : Nat) (us : List V) (R : List (Nat × Nat)), vs = [.ref p, .int many, .ref l] ∧ H p = some (.ins A.c_Web dx []) ∧ SqL K H l us ∧ ITs H us (R.map rI) ∧ GoodRows many R ∧
  ∀ H', WebAt A H' p many (R.map srt) → (∀ b o, H b = some o → b ≠ p → H' b = some o) → Q .non H'
def sp_Web_good_tie : Sp := fun vs H Q _ => ∃ (p dx l : Addr) (lo hi many : Nat) (W : List (Nat × Nat)), vs = [.ref p, .int lo, .int hi] ∧ H p = some (.ins A.c_Web dx (webF many l)) ∧ LL H l (W.map rI) ∧ lo ≠ hi ∧ hi < many ∧ (lo, hi) ∉ W ∧
  ∀ q H', Same H H' → IT H' q (rI (lo, hi)) → Q q H'
def sp_Web_size : Sp := fun vs H Q _ => ∃ (p : Addr) (many : Nat) (W : List (Nat × Nat)), vs = [.ref p] ∧ WebAt A H p many W ∧ Q (.int many) H
def sp_Web_ties : Sp := fun vs H Q _ => ∃ (p : Addr) (many : Nat) (W : List (Nat × Nat)), vs = [.ref p] ∧ WebAt A H p many W ∧ ∀ q H', Same H H' → LL H' q (W.map rI) → Q (.ref q) H'
def sp_Web_at : Sp := fun vs H Q _ => ∃ (p : Addr) (many x : Nat) (W : List (Nat × Nat)), vs = [.ref p, .int x] ∧ WebAt A H p many W ∧ WRows many W ∧ ∀ q H', Same H H' → H' q = some (.lst ((nI (atP W x)).map V.int)) → Q (.ref q) H'
def sp_last_points : Sp := fun vs H Q _ => ∃ (p : Addr) (many : Nat) (W : List (Nat × Nat)), vs = [.ref p] ∧ WebAt A H p many W ∧ WRows many W ∧
  ∀ q us H', Same H H' → H q = Option.none → H' q = some (.lst us) → us.length = W.length → (∀ k, k < W.length → ∃ a, H a = Option.none ∧ us[k]? = some (.ref a) ∧ H' a = some (.lst ((nI (lastP W k)).map V.int))) → Q (.ref q) H'
def sp_Sieve_init : Sp := fun vs H Q _ => ∃ (p dx l : Addr) (n t : Nat), vs = [.ref p, .int n, .ref l, .int t] ∧ H p = some (.ins A.c_Sieve dx []) ∧ ∀ H', (∀ b, b ≠ p → H' b = H b) → H' p = some (.ins A.c_Sieve dx (sieF n l t)) → Q .non H'
def sp_Sieve_many : Sp := fun vs H Q _ => ∃ (p : Addr) (n t : Nat) (rows : List Kn), vs = [.ref p] ∧ SieAt A H p n rows t ∧ Q (.int n) H
def sp_Sieve_top : Sp := fun vs H Q _ => ∃ (p : Addr) (n t : Nat) (rows : List Kn), vs = [.ref p] ∧ SieAt A H p n rows t ∧ Q (.int t) H
def sp_Sieve_knots : Sp := fun vs H Q _ => ∃ (p : Addr) (n t : Nat) (rows : List Kn), vs = [.ref p] ∧ SieAt A H p n rows t ∧ ∀ q H', Same H H' → H q = Option.none → LL H' q (rows.map kI) → Q (.ref q) H'
def sp_knot_sets : Sp := fun vs H Q _ => ∃ (p : Addr) (n t : Nat) (rows : List Kn), vs = [.ref p] ∧ SieAt A H p n rows t ∧ Valid n rows ∧ n ≤ 12 ∧ rows.length ≤ 100000 ∧
  ∀ q us H', Same H H' → H' q = some (.lst us) → us.length = rows.length + 2 → (∀ x, x < rows.length + 2 → ∃ a, us[x]? = some (.ref a) ∧ LL H' a ((setsAt rows x).map nI)) → Q (.ref q) H'
def sp_sets_of : Sp := fun vs H Q _ => ∃ (p : Addr) (n t : Nat) (rows : List Kn), vs = [.ref p] ∧ SieAt A H p n rows t ∧ Valid n rows ∧ n ≤ 12 ∧ rows.length ≤ 100000 ∧ t < rows.length + 2 ∧
  ∀ q H', Same H H' → LL H' q ((setsAt rows t).map nI) → Q (.ref q) H'
def sp_led_to : Sp := fun vs H Q _ => ∃ (p : Addr) (n t x : Nat) (rows : List Kn) (v : V) (S : List Nat), vs = [.ref p, .int x, v] ∧ SieAt A H p n rows t ∧ Valid n rows ∧ x < rows.length + 2 ∧ IT H v (nI S) ∧ S.Pairwise (· < ·) ∧
  ∀ H', Same H H' → Q (.int (bI (decide (S ∈ setsAt rows x)))) H'
def sp_has_set : Sp := fun vs H Q _ => ∃ (p : Addr) (n t : Nat) (rows : List Kn) (v : V) (S : List Nat), vs = [.ref p, v] ∧ SieAt A H p n rows t ∧ Valid n rows ∧ t < rows.length + 2 ∧ IT H v (nI S) ∧ S.Pairwise (· < ·) ∧
  ∀ H', Same H H' → Q (.bl (decide (S ∈ setsAt rows t))) H'
def sp_look_many : Sp := fun vs H Q _ => ∃ n : Nat, vs = [.int n] ∧ n ≤ 12 ∧ Q .non H
def sp_look_rows : Sp := fun vs H Q _ => ∃ (l : Addr) (n t : Nat) (rows : List Kn), vs = [.int n, .ref l, .int t] ∧ LL H l (rows.map kI) ∧ Valid n rows ∧ t < rows.length + 2 ∧ rows.length ≤ 8200 ∧ ∀ H', Same H H' → Q .non H'
/-- the kept rows: two None ahead -/
def KL (H : Hp) (p : Addr) (ks : List Kn) : Prop := ∃ us, H p = some (.lst (.non :: .non :: us)) ∧ ITs H us (ks.map kI)
def sp_merged_knots : Sp := fun vs H Q _ => ∃ (l : Addr) (n : Nat) (rows : List Kn), vs = [.ref l] ∧ LL H l (rows.map kI) ∧ Valid n rows ∧ rows.length ≤ 8200 ∧
  ∀ (q a b : Addr) (same : List Nat) (ks : List Kn) (H' : Hp), Same H H' → H' q = some (.tup [.ref a, .ref b]) → H' a = some (.lst ((nI same).map V.int)) → KL H' b ks → Valid n ks → ks.length ≤ rows.length → same.length = rows.length + 2 →
    (∀ x y, same[x]? = some y → y < ks.length + 2 ∧ setsAt ks y = setsAt rows x) → Q (.ref q) H'
def sp_knots_reached : Sp := fun vs H Q _ => ∃ (l : Addr) (n t : Nat) (ks : List Kn), vs = [.ref l, .int t] ∧ KL H l ks ∧ Valid n ks ∧ t < ks.length + 2 ∧ ks.length ≤ 8200 ∧
  ∀ (q : Addr) (L : List Nat) (H' : Hp), Same H H' → H q = Option.none → H' q = some (.lst ((nI L).map V.int)) → L.Nodup → (∀ x ∈ L, 2 ≤ x ∧ x < ks.length + 2) → (2 ≤ t → t ∈ L) →
    (∀ x ∈ L, ∀ r, ks[x - 2]? = some r → (2 ≤ r.2.1 → r.2.1 ∈ L) ∧ (2 ≤ r.2.2 → r.2.2 ∈ L)) → Q (.ref q) H'
/-- a new sieve of these sets -/
def NewSie (n : Nat) (L : List (List Nat)) (H : Hp) (Q : VK) : Prop := ∀ (p : Addr) (rows : List Kn) (t : Nat) (H' : Hp), Same H H' → SieAt A H' p n rows t → Valid n rows → rows.length ≤ 100000 → t < rows.length + 2 → setsAt rows t = L → (∀ H2, (∀ b o, H b = Option.none → H' b = some o → H2 b = some o) → KT H' H2 → SieAt A H2 p n rows t) → Q (.ref p) H'
def sp_numbered_sieve : Sp := fun vs H Q _ => ∃ (l : Addr) (n t : Nat) (ks : List Kn), vs = [.int n, .ref l, .int t] ∧ KL H l ks ∧ Valid n ks ∧ n ≤ 12 ∧ t < ks.length + 2 ∧ ks.length ≤ 8200 ∧ NewSie A n (setsAt ks t) H Q
def sp_least_of : Sp := fun vs H Q _ => ∃ (l : Addr) (n t : Nat) (rows : List Kn), vs = [.int n, .ref l, .int t] ∧ LL H l (rows.map kI) ∧ Valid n rows ∧ n ≤ 12 ∧ t < rows.length + 2 ∧ rows.length ≤ 8200 ∧ NewSie A n (setsAt rows t) H Q
def sp_least_sieve : Sp := sp_least_of A
def sp_Rule_look : Sp := fun vs H Q _ => ∃ u v, vs = [u, v] ∧ Q .non H
def sp_Rule_left : Sp := fun vs H Q _ => ∃ u v x y, vs = [u, v, x, y] ∧ Q x H
def sp_Rings_begin : Sp := fun vs H Q _ => ∃ (u : V) (p : Addr) (many : Nat) (W : List (Nat × Nat)), vs = [u, .ref p] ∧ WebAt A H p many W ∧ WRows many W ∧ ∀ v H', Same H H' → IT H' v (stI (beginM many)) → Q v H'
def sp_Rings_took : Sp := fun vs H Q _ => ∃ (u v : V) (p : Addr) (many k : Nat) (W : List (Nat × Nat)) (s : St), vs = [u, .ref p, v, .int k] ∧ WebAt A H p many W ∧ WRows many W ∧ IT H v (stI s) ∧ StOk many s ∧ k < W.length ∧
  ∀ v' H', Same H H' → SV H' v' (tookM s (eW W k).1 (eW W k).2) → Q v' H'
def sp_R_shut (all : Bool) : Sp := fun vs H Q _ => ∃ (u o v : V) (many x : Nat) (s : St), vs = [u, o, v, .int x] ∧ IT H v (stI s) ∧ StOk many s ∧ x < many ∧ many ≤ 10 ∧ ∀ v' H', Same H H' → SV H' v' (shutM all s x) → Q v' H'
def sp_Rings_good : Sp := fun vs H Q _ => ∃ (u o v : V) (s : St), vs = [u, o, v] ∧ IT H v (stI s) ∧ Q (.bl s.closed) H
def sp_Rule_shut_all (all : Bool) : Sp := fun vs H Q _ => ∃ (p l : Addr) (o v : V) (many : Nat) (s : Option St) (ps : List Nat), vs = [.ref p, o, v, .ref l] ∧ RuleAt A H p all ∧ SV H v s ∧ (∀ s', s = some s' → StOk many s') ∧ many ≤ 10 ∧ SqL K H l ((nI ps).map V.int) ∧ (∀ x ∈ ps, x < many) ∧
  ∀ v' H', Same H H' → SV H' v' (shutAllM all s ps) → Q v' H'
def sp_Rule_opened (all : Bool) : Sp := fun vs H Q _ => ∃ (p wb : Addr) (many : Nat) (W : List (Nat × Nat)), vs = [.ref p, .ref wb] ∧ RuleAt A H p all ∧ WebAt A H wb many W ∧ WRows many W ∧
  ∀ v' H', Same H H' → SV H' v' (openedM all many (loneP many W)) → Q v' H'
def sp_Rule_stepped (all : Bool) : Sp := fun vs H Q _ => ∃ (p wb l : Addr) (v : V) (many k : Nat) (W : List (Nat × Nat)) (s : St) (b : Bool), vs = [.ref p, .ref wb, v, .int k, .bl b, .ref l] ∧ RuleAt A H p all ∧ WebAt A H wb many W ∧ WRows many W ∧ IT H v (stI s) ∧ StOk many s ∧ k < W.length ∧
  SqL K H l ((nI (lastP W k)).map V.int) ∧ ∀ v' H', Same H H' → SV H' v' (stepM all (eW W) (lastP W) s k b) → Q v' H'
def sp_Rule_fits (all : Bool) : Sp := fun vs H Q _ => ∃ (p wb a : Addr) (many : Nat) (W : List (Nat × Nat)) (S : List Nat), vs = [.ref p, .ref wb, .ref a] ∧ RuleAt A H p all ∧ WebAt A H wb many W ∧ WRows many W ∧ (SqL K H a ((nI S).map V.int) ∨ SqT K H a ((nI S).map V.int)) ∧
  ∀ H', Same H H' → Q (.bl (accW all many W S)) H'
def sp_tied_mates : Sp := fun vs H Q _ => ∃ (l : Addr) (a b many : Nat) (ms : List Int), vs = [.ref l, .int a, .int b] ∧ SqL K H l (ms.map V.int) ∧ ms.length = many ∧ many ≤ 10 ∧ (∀ x ∈ ms, -1 ≤ x ∧ x < many) ∧ a < many ∧ b < many ∧ gm ms a ≠ -1 ∧ gm ms b ≠ -1 ∧
  ∀ q H', Same H H' → H' q = some (.lst ((tiedM ms a b).map V.int)) → Q (.ref q) H'
def sp_are_ended : Sp := fun vs H Q _ => ∃ (l : Addr) (ms : List Int), vs = [.ref l] ∧ SqL K H l (ms.map V.int) ∧ ms.length ≤ 10 ∧ ∀ H', Same H H' → Q (.bl (endedM ms)) H'
def sp_grown : Sp := fun vs H Q _ => ∃ (all : Bool) (p wb : Addr) (many : Nat) (W : List (Nat × Nat)), vs = [.ref wb, .ref p] ∧ RuleAt A H p all ∧ WebAt A H wb many W ∧ WRows many W ∧ NewSie A W.length (langW all many W) H Q
end
end Fw
end

section
set_option Elab.async false
set_option maxRecDepth 100000
set_option maxHeartbeats 4000000
set_option linter.all false
/-! D1: webs. -/
namespace Fw
open PySem PySem.Spec PyProof.Rows L2

theorem ok_Web_size {P : Program} {w : World} {K : PySem.W.Frag} {mg : Str → Option Value} {base : Heap} {A : Ad} (T : Txt K mg A) : FnOk P w K mg base CX0 1 A.f_Web_size A.d_Web_size ["self"] (sp_Web_size A) := by
  refine T.F_Web_size.ok sc_Web_size (fun vs H Q E h => ?_) (fun cdv A' outer s H vs Q E hr h => ?_)
  · obtain ⟨p, m, W, rfl, _⟩ := h
    rfl
  · obtain ⟨p, m, W, rfl, ⟨dx, l, hp, hL⟩, k⟩ := h
    refine ⟨_, (pss_one (ps_ret (fldK (K := K) (pv 0) rfl))), ?_⟩
    exact ⟨_, rfl, p, _, dx, _, _, rfl, hp, T.cl_Web, T.n_Web_point_count, webF_pc _ _, k⟩
theorem ok_Web_ties {P : Program} {w : World} {K : PySem.W.Frag} {mg : Str → Option Value} {base : Heap} {A : Ad} (T : Txt K mg A) : FnOk P w K mg base CX0 1 A.f_Web_ties A.d_Web_ties ["self"] (sp_Web_ties A) := by
  refine T.F_Web_ties.ok sc_Web_ties (fun vs H Q E h => ?_) (fun cdv A' outer s H vs Q E hr h => ?_)
  · obtain ⟨p, m, W, rfl, _⟩ := h
    rfl
  · obtain ⟨p, m, W, rfl, ⟨dx, l, hp, us, hl, hI⟩, k⟩ := h
    refine ⟨_, (pss_one (ps_ret (pe_callTy (lstof (K := K)) (by rfl) T.z_list (by decide +kernel) (pa_cons (fldK (K := K) (pv 0) rfl) pa_nil)))), ?_⟩
    refine ⟨_, rfl, p, _, dx, _, _, rfl, hp, T.cl_Web, T.n_Web_rows, webF_rows _ _, l, us, rfl, .inl (SqL.of hl), fun q hq => ?_⟩
    exact k q _ (Same_new hq) ⟨us, upd_same, hI.kt (KT.new hq)⟩
theorem atP_step (W : List (Nat × Nat)) (x i : Nat) (hi : i < W.length) : ((List.range (i + 1)).filter fun k => inc (eW W) x k) = ((List.range i).filter fun k => inc (eW W) x k) ++ (if inc (eW W) x i then [i] else []) := by
  rw [List.range_succ, List.filter_append]
  congr 1
  rw [List.filter_cons]
  rfl
theorem in_row (W : List (Nat × Nat)) (x i : Nat) : inV (.int (x : Int)) ((rI (eW W i)).map V.int) = inc (eW W) x i := by
  rw [inInts, rI, inc]
  by_cases h1 : (eW W i).1 = x
  · simp [h1]
  · by_cases h2 : (eW W i).2 = x
    · simp [h2]
    · have e1 : ¬ ((x : Int) = ((eW W i).1 : Int)) := by omega
      have e2 : ¬ ((x : Int) = ((eW W i).2 : Int)) := by omega
      simp [h1, h2, e1, e2]
theorem rI_at {W : List (Nat × Nat)} {i : Nat} (hi : i < W.length) : (W.map rI)[i]? = some (rI (eW W i)) := by
  rw [List.getElem?_map, List.getElem?_eq_getElem hi, eW, List.getD_eq_getElem?_getD, List.getElem?_eq_getElem hi]; rfl
theorem ok_Web_at {P : Program} {w : World} {K : PySem.W.Frag} {mg : Str → Option Value} {base : Heap} {A : Ad} (T : Txt K mg A) : FnOk P w K mg base CX0 1 A.f_Web_at A.d_Web_at ["self", "point"] (sp_Web_at A) := by
  refine T.F_Web_at.ok sc_Web_at (fun vs H Q E h => ?_) (fun cdv A' outer s H vs Q E hr h => ?_)
  · obtain ⟨p, m, x, W, rfl, _⟩ := h
    rfl
  · obtain ⟨p, m, x, W, rfl, ⟨dx, l, hp, us, hl, hI⟩, hW, k⟩ := h
    refine ⟨_, (pss_one (ps_ret (pe_lc (own := [("k", 2), ("tie", 3)]) rfl sc_Web_at.nd (pien (K := K) (by rfl) T.z_enumerate (pa_cons (fldK (K := K) (pv 0) rfl) pa_nil)) (blkOk_by (N := ["self", "point", "k", "tie"]) (sc := defScope s_Web_at) (by decide +kernel)) (fun _ _ _ _ _ => (pgt (K := K) (n := 2) rfl (pgs_cons (pg_name (i := 2) sc_Web_at.nd rfl (by first | exact Or.inl rfl | exact Or.inr rfl)) (pgs_cons (pg_name (i := 3) sc_Web_at.nd rfl (by first | exact Or.inl rfl | exact Or.inr rfl)) pgs_nil)))) (fun _ _ _ _ _ => (pts_one (pt_cmpR (inq (K := K)) (pv 1) (pv 3) (by rfl)))) (fun _ _ _ _ _ => (pv 2))))), ?_⟩
    refine ⟨_, rfl, p, _, dx, _, _, rfl, hp, T.cl_Web, T.n_Web_rows, webF_rows _ _, l, us, rfl, SqL.of hl, fun D hD => ?_⟩
    have hlen : us.length = W.length := by rw [hI.len, List.length_map]
    refine lc_it (walk_enum (K := K) (a := l) (xs := us)) (fun i H1 => Same H H1 ∧ H1 D = some (.lst ((nI ((List.range i).filter fun k => inc (eW W) x k)).map V.int))) ⟨Same_new hD, upd_same⟩ (fun i H1 _ z => SqL.of (z.1 _ _ hl)) ?_ ?_
    · rintro i y H1 H2 hi ⟨s1, hD1⟩ ⟨t, y1, y2, rfl, ht, rfl, e1, e2⟩
      cases e1
      have hiW : i < W.length := by omega
      obtain ⟨ns, e3, a, rfl, ha⟩ := hI.get e2
      have e4 : ns = rI (eW W i) := by rw [rI_at hiW] at e3; exact (Option.some.inj e3).symm
      subst e4
      have htD : D ≠ t := ne_of_none hD1 ht
      refine ⟨t, _, rfl, SqT.of upd_same, rfl, _, _, rfl, ?_⟩
      refine ⟨_, _, rfl, rfl, ?_⟩
      have hl1 : ((nI ((List.range i).filter fun k => inc (eW W) x k)).map V.int).length ≤ 1000000 := by
        have := List.length_filter_le (fun k => inc (eW W) x k) (List.range i)
        have := hW.len
        simp [nI] at *; omega
      have st := atP_step W x i hiW
      refine ⟨rfl, _, rfl, _, rfl, a, _, rfl, .inr (SqT.of ((KT.new ht) _ _ (s1 _ _ ha))), rfl, flatInts _, _, rfl, ?_⟩
      show if inV (.int (x : Int)) ((rI (eW W i)).map V.int) = true then _ else _
      rw [in_row]
      cases hin : inc (eW W) x i with
      | true =>
        rw [hin] at st
        refine iteT ⟨_, rfl, _, (by rw [upd_ne htD]; exact hD1), szl hl1, (s1.newer ht).mut hD, ?_⟩
        rw [upd_same, st]
        simp [nI]
      | false =>
        rw [hin] at st
        refine iteF ⟨s1.newer ht, ?_⟩
        rw [upd_ne htD, hD1, st]
        simp
    · rintro H1 ⟨s1, hD1⟩
      refine k D H1 s1 ?_
      rw [hD1, hlen]; rfl
theorem ok_Web_good_tie {P : Program} {w : World} {K : PySem.W.Frag} {mg : Str → Option Value} {base : Heap} {A : Ad} (T : Txt K mg A) : FnOk P w K mg base CX0 1 A.f_Web_good_tie A.d_Web_good_tie ["self", "low", "high"] (sp_Web_good_tie A) := by
  refine T.F_Web_good_tie.ok sc_Web_good_tie (fun vs H Q E h => ?_) (fun cdv A' outer s H vs Q E hr h => ?_)
  · obtain ⟨p, dx, l, lo, hi, m, W, rfl, _⟩ := h
    rfl
  · obtain ⟨p, dx, l, lo, hi, m, W, rfl, hp, hL, hne, hhi, hno, k⟩ := h
    refine ⟨_, (pss_cons (ps_if (pw_or (pt_cmpR op_lt (pv 1) pe_int (nomark _)) (pw_or (pt_cmpR op_ge (pv 2) (fldK (K := K) (pv 0) rfl) (nomark _)) (pw_or1 (pt_cmpR op_eq (pv 1) (pv 2) (nomark _))))).pt
(pss_one ps_never)
pss_nil)
(pss_cons (ps_if (pt_cmpR (ind (K := K) (hu65 hr)) (pe_tup (pa_cons (pv 1) (pa_cons (pv 2) pa_nil))) (fldK (K := K) (pv 0) rfl) (by rfl))
(pss_one ps_never)
pss_nil)
(pss_one (ps_ret (pe_tup (pa_cons (pv 1) (pa_cons (pv 2) pa_nil))))))), ?_⟩
    refine ⟨_, rfl, _, _, rfl, rfl, _, rfl, iteN (decide_eq_false (by omega)) ?_⟩
    refine ⟨_, rfl, _, rfl, p, _, dx, _, _, rfl, hp, T.cl_Web, T.n_Web_point_count, webF_pc _ _, _, _, rfl, rfl, _, rfl, iteN (decide_eq_false (by omega)) ?_⟩
    refine ⟨_, rfl, _, rfl, rfl, _, rfl, iteN (decide_eq_false (fun z => hne (by injection z with z; omega))) ?_⟩
    refine ⟨_, rfl, _, rfl, by show 2 ≤ sizeLine; decide, fun t ht => ?_⟩
    have npt : p ≠ t := ne_of_none hp ht
    have hit : IT (upd H t (.tup [.int lo, .int hi])) (.ref t) (rI (lo, hi)) := ⟨t, rfl, upd_same⟩
    refine ⟨_, rfl, p, _, dx, _, _, rfl, (by rw [upd_ne npt]; exact hp), T.cl_Web, T.n_Web_rows, webF_rows _ _, _, _, hit.dp, (hL.same (Same_new ht)).dp, shT _, shL _, _, rfl, iteN ?_ ?_⟩
    · rw [any_eqv]
      refine decide_eq_false fun z => ?_
      obtain ⟨r, hr, e⟩ := List.mem_map.mp z
      simp only [rI, List.cons.injEq, and_true] at e
      obtain ⟨r1, r2⟩ := r
      have : (r1, r2) = (lo, hi) := by simp only [Prod.mk.injEq]; simp only at e; omega
      rw [this] at hr
      exact hno hr
    · refine ⟨_, rfl, _, rfl, by show 2 ≤ sizeLine; decide, fun u hu => ?_⟩
      exact k (.ref u) _ ((Same_new ht).newer hu) ⟨u, rfl, upd_same⟩
theorem ok_Web_init {P : Program} {w : World} {K : PySem.W.Frag} {mg : Str → Option Value} {base : Heap} {A : Ad} (T : Txt K mg A) : FnOk P w K mg base CX0 2 A.f_Web_init A.d_Web_init ["self", "many", "ties"] (sp_Web_init K A) := by
  have G_Web_good_tie : FnOk P w K mg base CX0 1 A.f_Web_good_tie A.d_Web_good_tie ["self", "low", "high"] (sp_Web_good_tie A) := ok_Web_good_tie T
  obtain ⟨t_MOST_POINTS, m_MOST_POINTS⟩ := T.k_MOST_POINTS
  obtain ⟨t_MOST_TIES_webs, m_MOST_TIES_webs⟩ := T.k_MOST_TIES_webs
  refine T.F_Web_init.ok sc_Web_init (fun vs H Q E h => ?_) (fun cdv A' outer s H vs Q E hr h => ?_)
  · obtain ⟨p, dx, l, m, us, R, rfl, _⟩ := h
    rfl
  · obtain ⟨p, dx, l, m, us, R, rfl, hp, hl, hI, hR, k⟩ := h
    have hlen : us.length = R.length := by rw [hI.len, List.length_map]
    refine ⟨_, (pss_cons (ps_if (pw_or (pt_cmpR op_lt (pv 1) pe_int (nomark _)) (pw_or (pt_cmpR op_gt (pv 1) (pe_glob (v := .int 10) (by rfl) m_MOST_POINTS ⟨_, rfl⟩) (nomark _)) (pw_or1 (pt_cmpR op_gt (pe_callB (lens (K := K)) (by rfl) T.z_len (by decide +kernel) (pa_cons (pv 2) pa_nil)) (pe_glob (v := .int 12) (by rfl) m_MOST_TIES_webs ⟨_, rfl⟩) (nomark _))))).pt
(pss_one ps_never)
pss_nil)
(pss_cons (ps_fld (pv 0) (pv 1) rfl)
(pss_cons (ps_fld (pv 0) (pe_lst pa_nil) rfl)
(pss_one (ps_for PassesOwn.never rfl (pil (K := K) (pv 2)) (pg_name (i := 3) sc_Web_init.nd rfl (by first | exact Or.inl rfl | exact Or.inr rfl))
(pss_one (ps_expr (pe_bm PySem.F.plainAttrs_list PySem.F.slot_list_append PySem.F.type_list_append mt_append (fldK (K := K) (pv 0) rfl) (pa_cons (pe_meth (pv 0) T.cl_Web T.m_Web_good_tie G_Web_good_tie (hr.mono (by decide)) T.b_Web_good_tie .nil pass0 (pa_cons (pe_callB (cr_minP rfl hr.units) (by rfl) T.z_min (by decide +kernel) (pa_cons (pv 3) pa_nil)) (pa_cons (pe_callB (cr_maxP rfl hr.units) (by rfl) T.z_max (by decide +kernel) (pa_cons (pv 3) pa_nil)) pa_nil))) pa_nil))))))))), ?_⟩
    have h1 := hR.one
    have h10 := hR.ten
    have h12 := hR.len
    refine ⟨_, rfl, _, _, rfl, rfl, _, rfl, iteN (decide_eq_false (by omega)) ?_⟩
    refine ⟨_, rfl, _, _, rfl, rfl, _, rfl, iteN (decide_eq_false (by omega)) ?_⟩
    refine ⟨_, rfl, l, us, rfl, .inl hl, _, _, rfl, rfl, _, rfl, iteN (decide_eq_false (by omega)) ?_⟩
    refine ⟨_, rfl, _, rfl, p, A.c_Web, dx, [], rfl, hp, T.cl_Web, T.n_Web_point_count, (by show 0 < 1000; decide), ?_⟩
    refine ⟨Nat.zero_le _, fun q hq => ?_⟩
    have nqp : p ≠ q := fun z => by rw [z, upd_same] at hq; cases hq
    have hq0 : H q = Option.none := by rw [upd_ne nqp.symm] at hq; exact hq
    refine ⟨_, rfl, p, A.c_Web, dx, _, rfl, (by rw [upd_ne nqp, upd_same]), T.cl_Web, T.n_Web_rows, (by show 1 < 1000; decide), ?_⟩
    have b0 : But p H (upd (upd (upd H p (.ins A.c_Web dx (putF "point_count" (.int m) []))) q (.lst [])) p (.ins A.c_Web dx (putF "rows" (.ref q) (putF "point_count" (.int m) [])))) := fun b o e n => by
      rw [upd_ne n, upd_ne (ne_of_none e hq0), upd_ne n]; exact e
    refine ⟨_, rfl, l, rfl, ⟨us, b0.sq hp hl⟩, for_list (K := K) (a := l) (xs := us) (fun i σ H1 => ∃ v, σ = [some (.ref p), some (.int m), some (.ref l), v] ∧ But p H H1 ∧ H1 p = some (.ins A.c_Web dx (webF m q)) ∧ LL H1 q (((R.take i).map srt).map rI))
      ⟨Option.none, rfl, b0, upd_same, [], by rw [upd_ne nqp.symm, upd_same], .nil⟩ (fun i σ H1 _ ⟨_, _, z, _⟩ => z.sq hp hl) ?_ ?_⟩
    · rintro i y σ H1 hi ⟨v, rfl, b1, hp1, hL1⟩
      obtain ⟨ns, e3, hy⟩ := hI.get hi
      have hiR : i < R.length := by have := (List.getElem?_eq_some_iff.mp hi).1; omega
      have eR : R[i]? = some R[i] := List.getElem?_eq_getElem hiR
      rw [List.getElem?_map, eR] at e3
      generalize R[i] = r at eR e3
      have e4 : ns = rI r := (Option.some.inj e3).symm
      subst e4
      obtain ⟨a, rfl, ha⟩ := hy.kt (b1.kt hp)
      have hmem : r ∈ R := List.mem_of_getElem? eR
      obtain ⟨r1, r2, r3⟩ := hR.pts r hmem
      have hno : srt r ∉ (R.take i).map srt := by
        rw [List.map_take]
        exact nd_take hR.nd (by rw [List.getElem?_map, eR]; rfl)
      obtain ⟨ws, hq1, hI1⟩ := hL1
      refine ⟨_, rfl, p, _, dx, _, _, rfl, hp1, T.cl_Web, T.n_Web_rows, webF_rows _ _, .inl ⟨rfl, _, SqL.of hq1⟩, ?_⟩
      refine ⟨_, rfl, p, dx, _, rfl, hp1, webF_no _ _ (by decide +kernel) (by decide +kernel), ?_⟩
      refine ⟨_, rfl, a, _, _, rfl, ha, _, rfl, a, _, _, rfl, ha, ?_⟩
      refine ⟨p, dx, q, min r.1 r.2, max r.1 r.2, m, (R.take i).map srt, ?_, hp1, ⟨ws, hq1, hI1⟩, by omega, by omega, hno, fun t H2 s2 hit => ?_⟩
      · rw [show min (r.1 : Int) (r.2 : Int) = ((min r.1 r.2 : Nat) : Int) by omega, show max (r.1 : Int) (r.2 : Int) = ((max r.1 r.2 : Nat) : Int) by omega]; rfl
      · have hws : ws.length = i := by have := hI1.len; simp at this; omega
        refine ⟨q, _, _, rfl, rfl, s2 _ _ hq1, szl (by omega), ?_⟩
        have nt : KT H2 (upd H2 q (.lst (ws ++ [t]))) := KT.mut (s2 _ _ hq1) trivial
        refine ⟨_, rfl, (b1.trans s2).mut hq0, by rw [upd_ne nqp]; exact s2 _ _ hp1, ws ++ [t], upd_same, ?_⟩
        rw [take_snoc eR, List.map_append, List.map_append]
        exact ((hI1.kt s2.kt).kt nt).snoc (hit.kt nt)
    · rintro σ H1 ⟨v, rfl, b1, hp1, hL1⟩
      rw [hlen, List.take_length] at hL1
      exact k H1 ⟨dx, q, hp1, hL1⟩ b1
end Fw
end

section
set_option Elab.async false
set_option maxRecDepth 100000
set_option maxHeartbeats 4000000
set_option linter.all false
/-! D2: last points of ties. -/
namespace Fw
open PySem PySem.Spec PyProof.Rows L2
def lcScope (e : Expr) : Scope := match e with
  | .ListComp _ _ sc _ => sc
  | _ => { kind := .function, names := [], isGenerator := false, isCoroutine := false }
def retE (s : Stmt) : Expr := match s with
  | .Return (some e) _ => e
  | _ => .Constant .none 0 ⟨0, 0, 0, 0⟩
abbrev SCOPE_last_points : Scope := relS (lcScope (retE ((defBody s_last_points).getD 0 (.Pass ⟨0, 0, 0, 0⟩)))) (defScope s_last_points)
theorem atP_last {W : List (Nat × Nat)} {x k : Nat} (hk : k < W.length) (hx : inc (eW W) x k = true) : ∃ l m, atP W x = m ++ [l] ∧ (atP W x).getLast? = some l := by
  have : k ∈ atP W x := List.mem_filter.mpr ⟨List.mem_range.mpr hk, hx⟩
  have hne : atP W x ≠ [] := fun z => by rw [z] at this; cases this
  obtain ⟨m, l, e⟩ : ∃ m l, atP W x = m ++ [l] := ⟨(atP W x).dropLast, (atP W x).getLast hne, (List.dropLast_concat_getLast hne).symm⟩
  exact ⟨l, m, e, by rw [e]; simp⟩
theorem beq_cast (a b : Nat) : ((a : Int) == (b : Int)) = (a == b) := by
  by_cases z : a = b
  · subst z; simp
  · rw [beq_eq_false_iff_ne.mpr (by omega : (a : Int) ≠ b), beq_eq_false_iff_ne.mpr z]
theorem ok_last_points {P : Program} {w : World} {K : PySem.W.Frag} {mg : Str → Option Value} {base : Heap} {A : Ad} (T : Txt K mg A) : FnOk P w K mg base CX0 2 A.f_last_points A.d_last_points ["web"] (sp_last_points A) := by
  have G_Web_ties : FnOk P w K mg base CX0 1 A.f_Web_ties A.d_Web_ties ["self"] (sp_Web_ties A) := ok_Web_ties T
  have G_Web_at : FnOk P w K mg base CX0 1 A.f_Web_at A.d_Web_at ["self", "point"] (sp_Web_at A) := ok_Web_at T
  refine T.F_last_points.ok sc_last_points (fun vs H Q E h => ?_) (fun cdv A' outer s H vs Q E hr h => ?_)
  · obtain ⟨p, m, W, rfl, _⟩ := h
    rfl
  · obtain ⟨p, m, W, rfl, hW, hR, k⟩ := h
    refine ⟨_, (pss_one (ps_ret (pe_lc (own := [("k", 1), ("tie", 2)]) rfl sc_last_points.nd (pien (K := K) (by rfl) T.z_enumerate (pa_cons (pe_meth0 (pv 0) T.cl_Web T.m_Web_ties G_Web_ties (hr.mono (by decide)) T.b_Web_ties .nil pass0) pa_nil)) (blkOk_by (N := ["web", "k", "tie", "point"]) (sc := defScope s_last_points) (by decide +kernel)) (fun _ _ _ _ _ => (pgt (K := K) (n := 2) rfl (pgs_cons (pg_name (i := 1) sc_last_points.nd rfl (by first | exact Or.inl rfl | exact Or.inr rfl)) (pgs_cons (pg_name (i := 2) sc_last_points.nd rfl (by first | exact Or.inl rfl | exact Or.inr rfl)) pgs_nil)))) (fun _ _ _ _ _ => pts_nil) (fun _ _ _ _ _ => (pe_lc (own := [("point", 3)]) rfl sc_last_points.nd (pit (K := K) (pv 2)) (blkOk_by (N := ["web", "k", "tie", "point"]) (sc := SCOPE_last_points) (by decide +kernel)) (fun _ _ _ _ _ => (pg_name (i := 3) sc_last_points.nd rfl (by first | exact Or.inl rfl | exact Or.inr rfl))) (fun _ _ _ _ _ => (pts_one (pt_cmpR op_eq (pe_ix (ixl (K := K)) (pe_meth (pv 0) T.cl_Web T.m_Web_at G_Web_at (hr.mono (by decide)) T.b_Web_at .nil pass0 (pa_cons (pv 3) pa_nil)) (pe_un un_neg pe_int) (fun _ _ => rfl)) (pv 1) (nomark _)))) (fun _ _ _ _ _ => (pv 3))))))), ?_⟩
    obtain ⟨dx, l, hp, hL⟩ := id hW
    refine ⟨_, rfl, p, dx, _, rfl, hp, webF_no _ _ (by decide +kernel) (by decide +kernel), p, m, W, rfl, hW, fun q H1 s1 hq => ?_⟩
    obtain ⟨us, hus, hI⟩ := hq
    have hlen : us.length = W.length := by rw [hI.len, List.length_map]
    refine ⟨q, us, rfl, SqL.of hus, fun D hD => ?_⟩
    refine lc_it (walk_enum (K := K) (a := q) (xs := us)) (fun i H2 => Same H1 H2 ∧ ∃ vs, H2 D = some (.lst vs) ∧ vs.length = i ∧ ∀ j, j < i → ∃ a, H a = Option.none ∧ a ≠ D ∧ vs[j]? = some (.ref a) ∧ H2 a = some (.lst ((nI (lastP W j)).map V.int)))
      ⟨Same_new hD, [], upd_same, rfl, fun j hj => absurd hj (Nat.not_lt_zero _)⟩ (fun i H2 _ z => SqL.of (z.1 _ _ hus)) ?_ ?_
    · rintro i y H2 H3 hi ⟨s2, vs, hD2, hvl, hvs⟩ ⟨t, y1, y2, rfl, ht, rfl, e1, e2⟩
      cases e1
      have hiW : i < W.length := by omega
      obtain ⟨ns, e3, a, rfl, ha⟩ := hI.get e2
      have e4 : ns = rI (eW W i) := by rw [rI_at hiW] at e3; exact (Option.some.inj e3).symm
      subst e4
      have htD : D ≠ t := ne_of_none hD2 ht
      refine ⟨t, _, rfl, SqT.of upd_same, rfl, _, _, rfl, ?_⟩
      refine ⟨_, _, rfl, rfl, ?_⟩
      have s3 : Same H1 (upd H2 t (.tup [.int i, .ref a])) := s2.newer ht
      have hD3 : (upd H2 t (.tup [.int i, .ref a])) D = some (.lst vs) := by rw [upd_ne htD]; exact hD2
      have hvs3 : ∀ j, j < i → ∃ b, H b = Option.none ∧ b ≠ D ∧ vs[j]? = some (.ref b) ∧ (upd H2 t (.tup [.int i, .ref a])) b = some (.lst ((nI (lastP W j)).map V.int)) := fun j hj => by
        obtain ⟨b, b0, b1, b2, b3⟩ := hvs j hj
        exact ⟨b, b0, b1, b2, by rw [upd_ne (ne_of_none b3 ht)]; exact b3⟩
      generalize (upd H2 t (.tup [.int i, .ref a])) = H3 at s3 hD3 hvs3
      refine ⟨rfl, yesIf ?_⟩
      -- the inner list
      have ha3 : H3 a = some (.tup ((rI (eW W i)).map V.int)) := s3 _ _ ha
      refine ⟨_, rfl, a, rfl, ⟨_, SqT.of ha3⟩, fun E2 hE2 => ?_⟩
      refine lc_it (walk_tup (K := K) (a := a) (xs := (rI (eW W i)).map V.int)) (fun j H4 => Same H3 H4 ∧ H4 E2 = some (.lst ((nI ((([(eW W i).1, (eW W i).2] : List Nat).take j).filter fun p => (atP W p).getLast? == some i)).map V.int)))
        ⟨Same_new hE2, upd_same⟩ (fun j H4 _ z => SqT.of (z.1 _ _ ha3)) ?_ ?_
      · rintro j y H4 H5 hj ⟨s4, hE4⟩ ⟨rfl, ey⟩
        obtain ⟨x, ex, rfl⟩ : ∃ x, ([(eW W i).1, (eW W i).2] : List Nat)[j]? = some x ∧ y = .int (x : Int) := by
          match j, ey with
          | 0, ey => exact ⟨_, rfl, (Option.some.inj ey).symm⟩
          | 1, ey => exact ⟨_, rfl, (Option.some.inj ey).symm⟩
        have hx : inc (eW W) x i = true := by
          have : x ∈ [(eW W i).1, (eW W i).2] := List.mem_of_getElem? ex
          simp only [List.mem_cons, List.not_mem_nil, or_false] at this
          exact inc_iff.mpr (by rcases this with z | z; exact .inl z.symm; exact .inr z.symm)
        obtain ⟨lst, mm, eat, elast⟩ := atP_last hiW hx
        have hW4 := hW.same ((s1.trans s3).trans s4)
        obtain ⟨dx4, l4, hp4, _⟩ := id hW4
        refine ⟨rfl, ?_⟩
        refine ⟨_, rfl, p, dx4, _, rfl, hp4, webF_no _ _ (by decide +kernel) (by decide +kernel), _, rfl, p, m, x, W, rfl, hW4, hR, fun r H5 s5 hr5 => ?_⟩
        refine ⟨_, rfl, r, _, _, _, rfl, rfl, SqL.of hr5, (by rw [eat]; simp only [nI, List.map_append, List.map_cons, List.map_nil]; exact atI_last _ _), _, rfl, rfl, _, rfl, ?_⟩
        have hdec : decide (V.int (lst : Int) = V.int (i : Int)) = ((atP W x).getLast? == some i) := by
          rw [elast, dec_int]
          show ((lst : Int) == (i : Int)) = (lst == i)
          exact beq_cast lst i
        rw [hdec]
        have stp : ((([(eW W i).1, (eW W i).2] : List Nat).take (j + 1)).filter fun p => (atP W p).getLast? == some i) = ((([(eW W i).1, (eW W i).2] : List Nat).take j).filter fun p => (atP W p).getLast? == some i) ++ (if (atP W x).getLast? == some i then [x] else []) := by
          rw [take_snoc ex, List.filter_append]
          congr 1
          rw [List.filter_cons]; rfl
        refine iteB (fun hc => ?_) (fun hc => ?_)
        · rw [if_pos hc] at stp
          refine ⟨_, rfl, _, s5 _ _ hE4, szl ?_, (s4.trans s5).mut hE2, ?_⟩
          · have := List.length_filter_le (fun p => (atP W p).getLast? == some i) (([(eW W i).1, (eW W i).2] : List Nat).take j)
            simp [nI] at *; omega
          · rw [upd_same, stp]; simp [nI]
        · rw [if_neg (by rw [hc]; simp)] at stp
          refine ⟨s4.trans s5, ?_⟩
          rw [s5 _ _ hE4, stp]; simp
      · rintro H4 ⟨s4, hE4⟩
        refine ⟨vs, s4 _ _ hD3, szl (by have := hR.len; omega), (s3.trans s4).mut hD, vs ++ [.ref E2], upd_same, by simp [hvl], fun j hj => ?_⟩
        have nE : E2 ≠ D := fun z => by rw [z, hD3] at hE2; cases hE2
        by_cases hj2 : j = i
        · subst hj2
          refine ⟨E2, (s1.trans s3).free hE2, nE, by rw [List.getElem?_append_right (by omega), hvl]; simp, ?_⟩
          rw [upd_ne nE, hE4]; rfl
        · obtain ⟨b, b0, b1, b2, b3⟩ := hvs3 j (by omega)
          exact ⟨b, b0, b1, by rw [List.getElem?_append_left (by omega)]; exact b2, by rw [upd_ne b1]; exact s4 _ _ b3⟩
    · rintro H2 ⟨s2, vs, hD2, hvl, hvs⟩
      refine k D vs H2 (s1.trans s2) (s1.free hD) hD2 (by omega) fun j hj => ?_
      obtain ⟨b, b0, b1, b2, b3⟩ := hvs j (by omega)
      exact ⟨b, b0, b2, b3⟩
end Fw
end

section
set_option Elab.async false
set_option maxRecDepth 100000
set_option maxHeartbeats 4000000
set_option linter.all false
/-! D3: the rings' own methods. -/
namespace Fw
open PySem PySem.Spec PyProof.Rows L2
/-! ### pieces of tuples of ints -/
def cutI (ns : List Int) (lo hi : Option Int) : List Int := (ns.drop (HT.sIx ns.length 0 lo)).take (HT.sIx ns.length ns.length hi - HT.sIx ns.length 0 lo)
theorem cutV_int (ns : List Int) (lo hi : Option Int) : cutV (ns.map V.int) lo hi = (cutI ns lo hi).map V.int := by
  unfold cutV cutI
  rw [List.length_map, List.map_take, List.map_drop]
section
variable {K : PySem.W.Frag} {H : Hp}
theorem slT {x : V} {ns : List Int} {lo hi : Option Int} {Q : VK} (h : IT H x ns) (q : ∀ v H', Same H H' → IT H' v (cutI ns lo hi) → Q v H') : rSlA K x lo hi H Q := by
  obtain ⟨a, rfl, e⟩ := h
  refine ⟨a, _, rfl, SqT.of e, fun hw => ?_, fun _ p hp => ?_⟩
  · rw [List.length_map] at hw
    refine q _ _ (Same.refl H) ⟨a, rfl, ?_⟩
    have : cutI ns lo hi = ns := by
      unfold cutI
      rw [hw.1, hw.2]; simp
    rw [this]; exact e
  · rw [cutV_int]
    exact q _ _ (Same_new hp) ⟨p, rfl, upd_same⟩
theorem ctT {x y : V} {ns ms : List Int} {Q : VK} (hx : IT H x ns) (hy : IT H y ms) (hz : ns.length + ms.length ≤ 1000000) (q : ∀ v H', Same H H' → IT H' v (ns ++ ms) → Q v H') : rCatA K x y H Q := by
  obtain ⟨a, rfl, e⟩ := hx
  obtain ⟨b, rfl, f⟩ := hy
  refine ⟨a, b, _, _, rfl, rfl, SqT.of e, SqT.of f, by rw [List.length_map, List.length_map]; exact sz hz, fun h0 => ?_, fun _ h0 => ?_, fun _ _ p hp => ?_⟩
  · have : ns = [] := List.map_eq_nil_iff.mp h0
    subst this
    exact q _ _ (Same.refl H) ⟨b, rfl, f⟩
  · have : ms = [] := List.map_eq_nil_iff.mp h0
    subst this
    exact q _ _ (Same.refl H) ⟨a, rfl, by rw [List.append_nil]; exact e⟩
  · exact q _ _ (Same_new hp) ⟨p, rfl, by rw [upd_same, List.map_append]⟩
end
theorem dInt (i j : Int) : decide (V.int i = V.int j) = decide (i = j) := by
  by_cases h : i = j
  · subst h; simp
  · have : ¬ V.int i = V.int j := fun z => h (V.int.inj z)
    rw [decide_eq_false h, decide_eq_false this]
theorem atM {ms : List Int} {p : Nat} (h : p < ms.length) : atI (ms.map V.int) (p : Int) = some (V.int (gm ms p)) := by
  refine atI_nat ?_
  rw [List.getElem?_map, gm, List.getD_eq_getElem?_getD, List.getElem?_eq_getElem h]; rfl
theorem st_last (s : St) : atI ((stI s).map V.int) (-1) = some (V.int (bI s.closed)) := by
  unfold stI
  rw [List.map_append]
  exact atI_last _ _
theorem st_at {s : St} {p : Nat} (h : p < s.mates.length) : atI ((stI s).map V.int) (p : Int) = some (V.int (gm s.mates p)) := by
  have h2 : p < (stI s).length := by unfold stI; simp; omega
  rw [atM h2]
  congr 2
  unfold gm stI
  rw [List.getD_eq_getElem?_getD, List.getD_eq_getElem?_getD, List.getElem?_append_left h]
theorem st_len (s : St) : (stI s).length = s.mates.length + 1 := by unfold stI; simp
theorem cut_init (s : St) : cutI (stI s) none (some (-1)) = s.mates := by
  unfold cutI
  have h1 : HT.sIx (stI s).length 0 none = 0 := rfl
  have h2 : HT.sIx (stI s).length (stI s).length (some (-1)) = s.mates.length := by
    show (if (-1 : Int) < 0 then (-1 + ((stI s).length : Int)).toNat else min (-1 : Int).toNat (stI s).length) = _
    rw [if_pos (by decide), st_len]; omega
  rw [h1, h2]
  unfold stI
  simp
theorem cut_to (s : St) {p : Nat} (h : p < s.mates.length) : cutI (stI s) none (some (p : Int)) = s.mates.take p := by
  unfold cutI
  have h1 : HT.sIx (stI s).length 0 none = 0 := rfl
  rw [h1, HT.sIx_nat, st_len, Nat.min_eq_left (show p ≤ s.mates.length + 1 by omega)]
  unfold stI
  rw [List.drop_zero, Nat.sub_zero, List.take_append_of_le_length (show p ≤ s.mates.length by omega)]
theorem cut_from (s : St) {p : Nat} (h : p < s.mates.length) : cutI (stI s) (some ((p : Int) + 1)) none = s.mates.drop (p + 1) ++ [bI s.closed] := by
  unfold cutI
  have h1 : HT.sIx (stI s).length 0 (some ((p : Int) + 1)) = p + 1 := by
    rw [show ((p : Int) + 1) = ((p + 1 : Nat) : Int) by omega, HT.sIx_nat, st_len]; omega
  have h2 : HT.sIx (stI s).length (stI s).length none = (stI s).length := rfl
  rw [h1, h2, st_len]
  unfold stI
  rw [List.drop_append_of_le_length (show p + 1 ≤ s.mates.length by omega)]
  exact List.take_of_length_le (by simp; omega)
theorem st_shut (s : St) {p : Nat} (h : p < s.mates.length) : s.mates.take p ++ [(-1 : Int)] ++ (s.mates.drop (p + 1) ++ [bI s.closed]) = stI ⟨s.mates.set p (-1), s.closed⟩ := by
  unfold stI
  rw [List.set_eq_take_append_cons_drop, if_pos h]
  simp
theorem ixN_nat {n j : Nat} (h : j < n) : ixN n (j : Int) = some j := by
  unfold ixN
  rw [if_pos (by omega), if_pos (by omega)]; simp
theorem rg_nats (m : Nat) : rgV 0 (m : Int) = ((List.range m).map fun p : Nat => (p : Int)).map V.int := by
  unfold rgV
  rw [List.map_map]
  rw [show ((m : Int) - 0).toNat = m by omega]
  apply List.map_congr_left
  intro p _
  show V.int (0 + (p : Int)) = V.int (p : Int)
  rw [Int.zero_add]
/-! ### states stay states -/
theorem StOk.begin (many : Nat) : StOk many (beginM many) := by
  refine ⟨by simp [beginM], fun x hx => ?_⟩
  obtain ⟨p, hp, rfl⟩ := List.mem_map.mp hx
  have := List.mem_range.mp hp
  omega
theorem gm_rng {many : Nat} {ms : List Int} (hl : ms.length = many) (h : ∀ x ∈ ms, -1 ≤ x ∧ x < many) {p : Nat} (hp : p < many) : -1 ≤ gm ms p ∧ gm ms p < many := by
  refine h _ ?_
  unfold gm
  rw [List.getD_eq_getElem?_getD, List.getElem?_eq_getElem (by omega)]
  exact List.getElem_mem _
theorem set_rng {many : Nat} {ms : List Int} (h : ∀ x ∈ ms, -1 ≤ x ∧ x < many) {p : Nat} {v : Int} (hv : -1 ≤ v ∧ v < many) : ∀ x ∈ ms.set p v, -1 ≤ x ∧ x < many := fun x hx => by
  rcases List.mem_or_eq_of_mem_set hx with z | z
  · exact h x z
  · rw [z]; exact hv
theorem tied_ok {many : Nat} {ms : List Int} (hl : ms.length = many) (h : ∀ x ∈ ms, -1 ≤ x ∧ x < many) {a b : Nat} (ha : a < many) (hb : b < many) : (tiedM ms a b).length = many ∧ ∀ x ∈ tiedM ms a b, -1 ≤ x ∧ x < many := by
  have g1 := gm_rng hl h ha
  have g2 := gm_rng hl h hb
  unfold tiedM
  refine ⟨by simp [hl], set_rng (set_rng (set_rng (set_rng h (by omega)) (by omega)) g2) g1⟩
theorem StOk.took {many : Nat} {s s' : St} (h : StOk many s) {a b : Nat} (ha : a < many) (hb : b < many) (e : tookM s a b = some s') : StOk many s' := by
  obtain ⟨_, _, _, ⟨_, rfl⟩ | ⟨_, _, rfl⟩⟩ := tookM_cases e
  · exact tied_ok h.1 h.2 ha hb
  · exact ⟨by simp [h.1], set_rng (set_rng h.2 (by omega)) (by omega)⟩
theorem StOk.shut {many : Nat} {s s' : St} (h : StOk many s) {all : Bool} {p : Nat} (e : shutM all s p = some s') : StOk many s' := by
  unfold shutM at e
  split at e
  · split at e
    · cases e
    · cases e; exact h
  · split at e
    · cases e
    · cases e; exact ⟨by simp [h.1], set_rng h.2 (by have := h.1; omega)⟩
theorem shutAllM_snoc (all : Bool) (x : Nat) : ∀ (l : List Nat) (o : Option St), shutAllM all o (l ++ [x]) = (shutAllM all o l).bind fun s => shutM all s x
  | [], o => rfl
  | y :: l, o => shutAllM_snoc all x l _
theorem StOk.shutAll {many : Nat} {all : Bool} : ∀ {ps : List Nat} {o : Option St}, (∀ s, o = some s → StOk many s) → ∀ s', shutAllM all o ps = some s' → StOk many s'
  | [], o, h, s', e => h s' e
  | p :: ps, o, h, s', e => by
    refine StOk.shutAll (ps := ps) (o := o.bind fun s => shutM all s p) (fun s e2 => ?_) s' e
    cases o with
    | none => cases e2
    | some t => exact (h t rfl).shut e2
theorem StOk.step {many : Nat} {all : Bool} {e : Nat → Nat × Nat} {last : Nat → List Nat} {s s' : St} {k : Nat} {b : Bool} (h : StOk many s) (h1 : (e k).1 < many) (h2 : (e k).2 < many) (q : stepM all e last s k b = some s') : StOk many s' := by
  refine StOk.shutAll (fun t et => ?_) s' q
  cases b with
  | true => exact h.took h1 h2 et
  | false => cases et; exact h
theorem eW_mem {W : List (Nat × Nat)} {k : Nat} (h : k < W.length) : eW W k ∈ W := by
  rw [eW, List.getD_eq_getElem?_getD, List.getElem?_eq_getElem h]; exact List.getElem_mem _
/-! ### the defs -/
theorem ok_Rings_begin {P : Program} {w : World} {K : PySem.W.Frag} {mg : Str → Option Value} {base : Heap} {A : Ad} (T : Txt K mg A) : FnOk P w K mg base CX0 2 A.f_Rings_begin A.d_Rings_begin ["self", "web"] (sp_Rings_begin A) := by
  have G_Web_size : FnOk P w K mg base CX0 1 A.f_Web_size A.d_Web_size ["self"] (sp_Web_size A) := ok_Web_size T
  refine T.F_Rings_begin.ok sc_Rings_begin (fun vs H Q E h => ?_) (fun cdv A' outer s H vs Q E hr h => ?_)
  · obtain ⟨u, p, m, W, rfl, _⟩ := h
    rfl
  · obtain ⟨u, p, m, W, rfl, hW, hR, k⟩ := h
    refine ⟨_, (pss_one (ps_ret (pe_op (catt (K := K)) (pe_tupRg rfl (by rfl) T.z_tuple (prg_1 (by rfl) T.z_range (pe_meth0 (pv 1) T.cl_Web T.m_Web_size G_Web_size (hr.mono (by decide)) T.b_Web_size .nil pass0))) (pe_tup (pa_cons pe_int pa_nil))))), ?_⟩
    obtain ⟨dx, l, hp, hL⟩ := id hW
    have := hR.ten
    refine ⟨_, rfl, p, dx, _, rfl, hp, webF_no _ _ (by decide +kernel) (by decide +kernel), p, m, W, rfl, hW, _, rfl, RgOk.of_le (by decide) (by omega) (by decide) (by omega), fun q hq => ?_⟩
    rw [rg_nats]
    refine ⟨by show 1 ≤ sizeLine; decide, fun t ht => ?_⟩
    refine ctT (ns := (List.range m).map fun p : Nat => (p : Int)) (ms := [0]) ⟨q, rfl, Same_new ht _ _ upd_same⟩ ⟨t, rfl, upd_same⟩ (by simp; omega) fun v H3 s3 hv3 => ?_
    exact k v H3 (((Same_new hq).trans (Same_new ht)).trans s3) hv3
theorem ok_tied_mates {P : Program} {w : World} {K : PySem.W.Frag} {mg : Str → Option Value} {base : Heap} {A : Ad} (T : Txt K mg A) : FnOk P w K mg base CX0 1 A.f_tied_mates A.d_tied_mates ["mates", "one", "other"] (sp_tied_mates K) := by
  obtain ⟨t_AMID, m_AMID⟩ := T.k_AMID
  refine T.F_tied_mates.ok sc_tied_mates (fun vs H Q E h => ?_) (fun cdv A' outer s H vs Q E hr h => ?_)
  · obtain ⟨l, a, b, m, ms, rfl, _⟩ := h
    rfl
  · obtain ⟨l, a, b, m, ms, rfl, hl, hm, h10, hr, ha, hb, na, nb, k⟩ := h
    refine ⟨_, (pss_cons (ps_set (i := 3) sc_tied_mates.nd rfl (by first | exact Or.inl rfl | exact Or.inr rfl) (pe_ix (ixl (K := K)) (pv 0) (pv 1) (fun _ _ => rfl)))
(pss_cons (ps_set (i := 4) sc_tied_mates.nd rfl (by first | exact Or.inl rfl | exact Or.inr rfl) (pe_ix (ixl (K := K)) (pv 0) (pv 2) (fun _ _ => rfl)))
(pss_cons (ps_set (i := 5) sc_tied_mates.nd rfl (by first | exact Or.inl rfl | exact Or.inr rfl) (pe_callTy (lstof (K := K)) (by rfl) T.z_list (by decide +kernel) (pa_cons (pv 0) pa_nil)))
(pss_cons (ps_asg (pe_glob (v := .int (-1)) (by rfl) m_AMID ⟨_, rfl⟩) (pg_sub (pv 5) (pv 1) set_list))
(pss_cons (ps_asg (pe_glob (v := .int (-1)) (by rfl) m_AMID ⟨_, rfl⟩) (pg_sub (pv 5) (pv 2) set_list))
(pss_cons (ps_asg (pv 4) (pg_sub (pv 5) (pv 3) set_list))
(pss_cons (ps_asg (pv 3) (pg_sub (pv 5) (pv 4) set_list))
(pss_one (ps_ret (pv 5)))))))))), ?_⟩
    have ga := gm_rng hm hr ha
    have gb := gm_rng hm hr hb
    obtain ⟨f, hf⟩ : ∃ f : Nat, gm ms a = f := ⟨(gm ms a).toNat, by omega⟩
    obtain ⟨g, hg⟩ : ∃ g : Nat, gm ms b = g := ⟨(gm ms b).toNat, by omega⟩
    refine ⟨_, rfl, _, rfl, l, _, _, _, rfl, rfl, hl, atM (by omega), ?_⟩
    refine ⟨_, rfl, _, rfl, l, _, _, _, rfl, rfl, hl, atM (by omega), ?_⟩
    refine ⟨_, rfl, l, _, rfl, .inl hl, fun q hq => ?_⟩
    refine ⟨_, rfl, _, rfl, q, _, _, a, rfl, rfl, upd_same, ixN_nat (by rw [List.length_map]; omega), ?_⟩
    refine ⟨_, rfl, _, rfl, q, _, _, b, rfl, rfl, upd_same, ixN_nat (by rw [List.length_set, List.length_map]; omega), ?_⟩
    have hfm : f < m := by omega
    have hgm : g < m := by omega
    rw [hf, hg]
    refine ⟨_, rfl, _, rfl, _, rfl, q, _, _, f, rfl, rfl, upd_same, ixN_nat (by rw [List.length_set, List.length_set, List.length_map]; omega), ?_⟩
    refine ⟨_, rfl, _, rfl, _, rfl, q, _, _, g, rfl, rfl, upd_same, ixN_nat (by rw [List.length_set, List.length_set, List.length_set, List.length_map]; omega), ?_⟩
    refine ⟨_, rfl, k q _ ((((((Same_new hq).mut hq).mut hq).mut hq).mut hq)) ?_⟩
    rw [upd_same, tiedM, hf, hg]
    simp only [List.map_set, Int.toNat_natCast]
theorem ok_are_ended {P : Program} {w : World} {K : PySem.W.Frag} {mg : Str → Option Value} {base : Heap} {A : Ad} (T : Txt K mg A) : FnOk P w K mg base CX0 1 A.f_are_ended A.d_are_ended ["mates"] (sp_are_ended K) := by
  obtain ⟨t_AMID, m_AMID⟩ := T.k_AMID
  refine T.F_are_ended.ok sc_are_ended (fun vs H Q E h => ?_) (fun cdv A' outer s H vs Q E hr h => ?_)
  · obtain ⟨l, ms, rfl, _⟩ := h
    rfl
  · obtain ⟨l, ms, rfl, hl, h10, k⟩ := h
    refine ⟨_, (pss_one (ps_ret (pe_callB (alls (K := K) rfl) (by rfl) T.z_all (by decide +kernel) (pa_cons (pe_lc (own := [("point", 1), ("mate", 2)]) rfl sc_are_ended.nd (pien (K := K) (by rfl) T.z_enumerate (pa_cons (pv 0) pa_nil)) (blkOk_by (N := ["mates", "point", "mate"]) (sc := defScope s_are_ended) (by decide +kernel)) (fun _ _ _ _ _ => (pgt (K := K) (n := 2) rfl (pgs_cons (pg_name (i := 1) sc_are_ended.nd rfl (by first | exact Or.inl rfl | exact Or.inr rfl)) (pgs_cons (pg_name (i := 2) sc_are_ended.nd rfl (by first | exact Or.inl rfl | exact Or.inr rfl)) pgs_nil)))) (fun _ _ _ _ _ => pts_nil) (fun _ _ _ _ _ => (pe_or (pe_cmpR op_eq (pv 2) (pe_glob (v := .int (-1)) (by rfl) m_AMID ⟨_, rfl⟩) (nomark _)) (pe_one (pe_cmpR op_eq (pv 2) (pv 1) (nomark _)))))) pa_nil)))), ?_⟩
    refine ⟨_, rfl, l, _, rfl, hl, fun D hD => ?_⟩
    refine lc_it (walk_enum (K := K) (a := l) (xs := ms.map V.int)) (fun i H1 => Same H H1 ∧ H1 D = some (.lst (((List.range i).map fun p => gm ms p == -1 || gm ms p == (p : Int)).map V.bl)))
      ⟨Same_new hD, upd_same⟩ (fun i H1 _ z => z.1.seq hl) ?_ ?_
    · rintro i y H1 H2 hi ⟨s1, hD1⟩ ⟨t, y1, y2, rfl, ht, rfl, e1, e2⟩
      cases e1
      rw [List.length_map] at hi
      have e3 : y2 = V.int (gm ms i) := by
        have e2 : (ms.map V.int)[i]? = some y2 := e2
        rw [List.getElem?_map, List.getElem?_eq_getElem hi] at e2
        rw [gm, List.getD_eq_getElem?_getD, List.getElem?_eq_getElem hi]
        exact (Option.some.inj e2).symm
      subst e3
      refine ⟨t, _, rfl, SqT.of upd_same, rfl, _, _, rfl, _, _, rfl, rfl, rfl, yesIf ?_⟩
      have htD : D ≠ t := ne_of_none hD1 ht
      have fin : ∀ c : Bool, c = (gm ms i == -1 || gm ms i == (i : Int)) → ∃ acc, (upd H1 t (.tup [.int i, .int (gm ms i)])) D = some (.lst acc) ∧ acc.length < sizeLine ∧ Same H (upd (upd H1 t (.tup [.int i, .int (gm ms i)])) D (.lst (acc ++ [.bl c]))) ∧ (upd (upd H1 t (.tup [.int i, .int (gm ms i)])) D (.lst (acc ++ [.bl c]))) D = some (.lst (((List.range (i + 1)).map fun p => gm ms p == -1 || gm ms p == (p : Int)).map V.bl)) := fun c hc => by
        refine ⟨_, by rw [upd_ne htD]; exact hD1, szl (by simp; omega), (s1.newer ht).mut hD, ?_⟩
        rw [upd_same, hc, List.range_succ]
        simp
      refine ⟨_, rfl, rfl, _, rfl, iteB (fun hc => ?_) (fun hc => ?_)⟩
      · refine fin true ?_
        rw [dInt] at hc
        rw [beq_iff_eq.mpr (of_decide_eq_true hc)]; rfl
      · refine ⟨_, rfl, _, rfl, rfl, ?_⟩
        refine fin _ ?_
        rw [dInt] at hc ⊢
        have h1 := of_decide_eq_false hc
        rw [beq_eq_false_iff_ne.mpr h1, Bool.false_or]
        rfl
    · rintro H1 ⟨s1, hD1⟩
      rw [List.length_map] at hD1
      refine ⟨D, _, rfl, SqL.of hD1, ?_⟩
      rw [List.all_map]
      exact k H1 s1
end Fw
end

section
set_option Elab.async false
set_option maxRecDepth 100000
set_option maxHeartbeats 4000000
set_option linter.all false
/-! D4: taken, shut, good. -/
namespace Fw
open PySem PySem.Spec PyProof.Rows L2
theorem bI1 (b : Bool) : decide (V.int (bI b) = V.int 1) = b := by cases b <;> rfl
theorem SV.none_of {H : Hp} : SV H .non Option.none := rfl
theorem took_none {s : St} {a b : Nat} (h : s.closed = true ∨ gm s.mates a = -1 ∨ gm s.mates b = -1) : tookM s a b = Option.none := by unfold tookM; rw [if_pos h]
theorem ok_Rings_took {P : Program} {w : World} {K : PySem.W.Frag} {mg : Str → Option Value} {base : Heap} {A : Ad} (T : Txt K mg A) : FnOk P w K mg base CX0 2 A.f_Rings_took A.d_Rings_took ["self", "web", "state", "k"] (sp_Rings_took A) := by
  have G_Web_ties : FnOk P w K mg base CX0 1 A.f_Web_ties A.d_Web_ties ["self"] (sp_Web_ties A) := ok_Web_ties T
  have G_tied_mates : FnOk P w K mg base CX0 1 A.f_tied_mates A.d_tied_mates ["mates", "one", "other"] (sp_tied_mates K) := ok_tied_mates T
  have G_are_ended : FnOk P w K mg base CX0 1 A.f_are_ended A.d_are_ended ["mates"] (sp_are_ended K) := ok_are_ended T
  obtain ⟨t_AMID, m_AMID⟩ := T.k_AMID
  refine T.F_Rings_took.ok sc_Rings_took (fun vs H Q E h => ?_) (fun cdv A' outer s H vs Q E hr h => ?_)
  · obtain ⟨u, v, p, m, kk, W, st, rfl, _⟩ := h
    rfl
  · obtain ⟨u, v, p, m, kk, W, st, rfl, hW, hR, hv, hS, hk, k⟩ := h
    refine ⟨_, (pss_cons (ps_asg (pe_ix (ixl (K := K)) (pe_meth0 (pv 1) T.cl_Web T.m_Web_ties G_Web_ties (hr.mono (by decide)) T.b_Web_ties .nil pass0) (pv 3) (fun _ _ => rfl)) (pgt (K := K) (n := 2) rfl (pgs_cons (pg_name (i := 4) sc_Rings_took.nd rfl (by first | exact Or.inl rfl | exact Or.inr rfl)) (pgs_cons (pg_name (i := 5) sc_Rings_took.nd rfl (by first | exact Or.inl rfl | exact Or.inr rfl)) pgs_nil))))
(pss_cons (ps_set (i := 6) sc_Rings_took.nd rfl (by first | exact Or.inl rfl | exact Or.inr rfl) (pe_callTy (lstof (K := K)) (by rfl) T.z_list (by decide +kernel) (pa_cons (pe_slice (slt (K := K)) (pv 2) po_none (po_some (pe_un un_neg pe_int))) pa_nil)))
(pss_cons (ps_if (pw_or (pt_cmpR op_eq (pe_ix (ixt (K := K)) (pv 2) (pe_un un_neg pe_int) (fun _ _ => rfl)) pe_int (nomark _)) (pw_or (pt_cmpR op_eq (pe_ix (ixl (K := K)) (pv 6) (pv 4) (fun _ _ => rfl)) (pe_glob (v := .int (-1)) (by rfl) m_AMID ⟨_, rfl⟩) (nomark _)) (pw_or1 (pt_cmpR op_eq (pe_ix (ixl (K := K)) (pv 6) (pv 5) (fun _ _ => rfl)) (pe_glob (v := .int (-1)) (by rfl) m_AMID ⟨_, rfl⟩) (nomark _))))).pt
(pss_one (ps_ret pe_non))
pss_nil)
(pss_cons (ps_if (pt_cmpR op_ne (pe_ix (ixl (K := K)) (pv 6) (pv 4) (fun _ _ => rfl)) (pv 5) (nomark _))
(pss_one (ps_ret (pe_op (catt (K := K)) (pe_callTy (tupof (K := K)) (by rfl) T.z_tuple (by decide +kernel) (pa_cons (pe_call G_tied_mates (hr.mono (by decide)) (by rfl) T.g_tied_mates T.F_tied_mates.kp T.b_tied_mates .nil pass0 (pa_cons (pv 6) (pa_cons (pv 4) (pa_cons (pv 5) pa_nil)))) pa_nil)) (pe_tup (pa_cons pe_int pa_nil)))))
pss_nil)
(pss_cons (ps_asg (pe_glob (v := .int (-1)) (by rfl) m_AMID ⟨_, rfl⟩) (pg_sub (pv 6) (pv 4) set_list))
(pss_cons (ps_asg (pe_glob (v := .int (-1)) (by rfl) m_AMID ⟨_, rfl⟩) (pg_sub (pv 6) (pv 5) set_list))
(pss_cons (ps_if (pt_val (pe_call G_are_ended (hr.mono (by decide)) (by rfl) T.g_are_ended T.F_are_ended.kp T.b_are_ended .nil pass0 (pa_cons (pv 6) pa_nil)))
(pss_one (ps_ret (pe_op (catt (K := K)) (pe_callTy (tupof (K := K)) (by rfl) T.z_tuple (by decide +kernel) (pa_cons (pv 6) pa_nil)) (pe_tup (pa_cons pe_int pa_nil)))))
pss_nil)
(pss_one (ps_ret pe_non))))))))), ?_⟩
    obtain ⟨dx, l, hp, hL⟩ := id hW
    have h10 := hR.ten
    obtain ⟨h1, h2, h3⟩ := hR.pts _ (eW_mem hk)
    obtain ⟨va, rfl, ha⟩ := id hv
    obtain ⟨hlen, hrng⟩ := id hS
    generalize hab : eW W kk = ab at *
    obtain ⟨a, b⟩ := ab
    simp only at h1 h2 h3
    -- one, other = web.ties()[k]
    refine ⟨_, rfl, p, dx, _, rfl, hp, webF_no _ _ (by decide +kernel) (by decide +kernel), p, m, W, rfl, hW, fun q H1 s1 hq => ?_⟩
    obtain ⟨us, hus, hI⟩ := hq
    obtain ⟨y, hy, t, rfl, ht⟩ := hI.at (rI_at hk)
    rw [hab] at ht
    refine ⟨_, rfl, q, us, _, _, rfl, rfl, SqL.of hus, atI_nat hy, ?_⟩
    refine ⟨t, _, rfl, SqT.of ht, rfl, _, _, rfl, _, _, rfl, rfl, ?_⟩
    -- mates = list(state[:-1])
    refine ⟨_, rfl, _, rfl, _, rfl, ?_⟩
    refine slT (hv.kt s1.kt) fun w2 H2 s2 hw => ?_
    rw [cut_init] at hw
    obtain ⟨c, rfl, hc⟩ := hw
    refine ⟨c, _, rfl, .inr (SqT.of hc), fun ml hml => ?_⟩
    have sA : Same H (upd H2 ml (.lst (st.mates.map V.int))) := (s1.trans s2).newer hml
    have hmH : H ml = Option.none := (s1.trans s2).free hml
    -- the first test
    have hva : (upd H2 ml (.lst (st.mates.map V.int))) va = some (.tup ((stI st).map V.int)) := sA _ _ ha
    have hM : (upd H2 ml (.lst (st.mates.map V.int))) ml = some (.lst (st.mates.map V.int)) := upd_same
    generalize (upd H2 ml (.lst (st.mates.map V.int))) = H3 at sA hva hM
    refine ⟨_, rfl, _, rfl, va, _, _, _, rfl, rfl, SqT.of hva, st_last st, rfl, _, rfl, ?_⟩
    rw [bI1]
    refine iteB (fun hcl => ?_) (fun hcl => ?_)
    · refine iteT ?_
      refine k .non H3 sA ?_
      rw [took_none (.inl hcl)]; rfl
    refine ⟨_, rfl, _, rfl, ml, _, _, _, rfl, rfl, SqL.of hM, atM (by omega), rfl, _, rfl, ?_⟩
    rw [dInt]
    refine iteB (fun hca => ?_) (fun hca => ?_)
    · refine iteT ?_
      refine k .non H3 sA ?_
      rw [took_none (.inr (.inl (of_decide_eq_true hca)))]; rfl
    refine ⟨_, rfl, _, rfl, ml, _, _, _, rfl, rfl, SqL.of hM, atM (by omega), rfl, _, rfl, ?_⟩
    rw [dInt]
    refine iteB (fun hcb => ?_) (fun hcb => ?_)
    · refine k .non H3 sA ?_
      rw [took_none (.inr (.inr (of_decide_eq_true hcb)))]; rfl
    have na := of_decide_eq_false hca
    have nb := of_decide_eq_false hcb
    have hno : ¬ (st.closed = true ∨ gm st.mates a = -1 ∨ gm st.mates b = -1) := by
      rintro (z | z | z)
      · rw [hcl] at z; cases z
      · exact na z
      · exact nb z
    -- if mates[one] != other
    refine ⟨_, rfl, _, rfl, ml, _, _, _, rfl, rfl, SqL.of hM, atM (by omega), _, rfl, rfl, _, rfl, ?_⟩
    rw [dInt]
    refine iteB (fun hne => ?_) (fun hne => ?_)
    · have hne : gm st.mates a ≠ (b : Int) := by simpa using hne
      refine ⟨_, rfl, _, rfl, _, rfl, ml, a, b, m, st.mates, rfl, SqL.of hM, hlen, h10, hrng, h2, h3, na, nb, fun q2 H4 s4 hq2 => ?_⟩
      refine ⟨q2, _, rfl, SqL.of hq2, fun q3 hq3 => ?_⟩
      refine ⟨by show 1 ≤ sizeLine; decide, fun q4 hq4 => ?_⟩
      refine ctT (ns := tiedM st.mates a b) (ms := [0]) ⟨q3, rfl, Same_new hq4 _ _ upd_same⟩ ⟨q4, rfl, upd_same⟩ ?_ fun v5 H5 s5 hv5 => ?_
      · have := (tied_ok hlen hrng h2 h3).1
        simp; omega
      · refine k v5 H5 ((((sA.trans s4).newer hq3).newer hq4).trans s5) ?_
        unfold tookM
        rw [if_neg hno, if_pos hne]
        exact hv5
    · have heq : gm st.mates a = (b : Int) := by simpa using hne
      -- mates[one] = AMID; mates[other] = AMID
      refine ⟨_, rfl, _, rfl, ml, _, _, a, rfl, rfl, hM, ixN_nat (by rw [List.length_map]; omega), ?_⟩
      refine ⟨_, rfl, _, rfl, ml, _, _, b, rfl, rfl, upd_same, ixN_nat (by rw [List.length_set, List.length_map]; omega), ?_⟩
      have e2 : ((st.mates.map V.int).set a (V.int (-1))).set b (V.int (-1)) = ((st.mates.set a (-1)).set b (-1)).map V.int := by simp only [List.map_set]
      rw [e2, upd_upd]
      have sB : Same H (upd H3 ml (.lst (((st.mates.set a (-1)).set b (-1)).map V.int))) := sA.mut hmH
      refine ⟨_, rfl, ml, _, rfl, SqL.of upd_same, by simp; omega, fun H4 s4 => ⟨_, rfl, ?_⟩⟩
      refine iteB (fun hen => ?_) (fun hen => ?_)
      · refine ⟨_, rfl, ml, _, rfl, SqL.of (s4 _ _ upd_same), fun q3 hq3 => ?_⟩
        refine ⟨by show 1 ≤ sizeLine; decide, fun q4 hq4 => ?_⟩
        refine ctT (ns := (st.mates.set a (-1)).set b (-1)) (ms := [1]) ⟨q3, rfl, Same_new hq4 _ _ upd_same⟩ ⟨q4, rfl, upd_same⟩ (by simp; omega) fun v5 H5 s5 hv5 => ?_
        refine k v5 H5 ((((sB.trans s4).newer hq3).newer hq4).trans s5) ?_
        unfold tookM
        rw [if_neg hno, if_neg (by simp [heq]), if_pos hen]
        exact hv5
      · refine k .non H4 (sB.trans s4) ?_
        unfold tookM
        rw [if_neg hno, if_neg (by simp [heq]), if_neg (by rw [hen]; simp)]
        rfl
theorem ok_Rings_shut {P : Program} {w : World} {K : PySem.W.Frag} {mg : Str → Option Value} {base : Heap} {A : Ad} (T : Txt K mg A) : FnOk P w K mg base CX0 1 A.f_Rings_shut A.d_Rings_shut ["self", "web", "state", "point"] (sp_R_shut false) := by
  obtain ⟨t_AMID, m_AMID⟩ := T.k_AMID
  refine T.F_Rings_shut.ok sc_Rings_shut (fun vs H Q E h => ?_) (fun cdv A' outer s H vs Q E hr h => ?_)
  · obtain ⟨u, o, v, m, x, st, rfl, _⟩ := h
    rfl
  · obtain ⟨u, o, v, m, x, st, rfl, hv, ⟨hlen, hrng⟩, hx, h10, k⟩ := h
    refine ⟨_, (pss_cons (ps_if (pw_and (pt_cmpR op_ne (pe_ix (ixt (K := K)) (pv 2) (pv 3) (fun _ _ => rfl)) (pe_glob (v := .int (-1)) (by rfl) m_AMID ⟨_, rfl⟩) (nomark _)) (pw_and1 (pt_cmpR op_ne (pe_ix (ixt (K := K)) (pv 2) (pv 3) (fun _ _ => rfl)) (pv 3) (nomark _)))).pt
(pss_one (ps_ret pe_non))
pss_nil)
(pss_one (ps_ret (pe_op (catt (K := K)) (pe_op (catt (K := K)) (pe_slice (slt (K := K)) (pv 2) po_none (po_some (pv 3))) (pe_tup (pa_cons (pe_glob (v := .int (-1)) (by rfl) m_AMID ⟨_, rfl⟩) pa_nil))) (pe_slice (slt (K := K)) (pv 2) (po_some (pe_op op_add (pv 3) pe_int)) po_none))))), ?_⟩
    obtain ⟨va, rfl, ha⟩ := id hv
    have last : ¬ (gm st.mates x ≠ -1 ∧ gm st.mates x ≠ (x : Int)) → tRet (tOp (rCatA K) (tOp (rCatA K) (tSl (rSlA K) (tVar 2) tNoPart (tPart (tVar 3))) (tTup (tCons (tC (.int (-1))) tNil))) (tSl (rSlA K) (tVar 2) (tPart (tOp (rI0 fun i j => .int (i + j)) (tVar 3) (tC (.int 1)))) tNoPart)) { nx := fun x H' => Q V.non H', rt := Q } [some u, some o, some (.ref va), some (.int x)] H := fun hn => by
      refine ⟨_, rfl, _, rfl, _, rfl, ?_⟩
      refine slT hv fun v1 H1 s1 hv1 => ?_
      rw [cut_to _ (by omega)] at hv1
      refine ⟨by show 1 ≤ sizeLine; decide, fun t ht => ?_⟩
      refine ctT (ns := st.mates.take x) (ms := [-1]) (hv1.kt (KT.new ht)) ⟨t, rfl, upd_same⟩ (by simp; omega) fun v2 H2 s2 hv2 => ?_
      have sA := ((s1.newer ht).trans s2)
      refine ⟨_, rfl, _, rfl, _, _, rfl, rfl, _, rfl, ?_⟩
      show rSlA K (.ref va) (some ((x : Int) + 1)) Option.none H2 (fun y H3 => rCatA K v2 y H3 Q)
      refine slT (hv.kt sA.kt) fun v3 H3 s3 hv3 => ?_
      rw [cut_from _ (by omega)] at hv3
      refine ctT (hv2.kt s3.kt) hv3 (by simp; omega) fun v4 H4 s4 hv4 => ?_
      refine k v4 H4 ((sA.trans s3).trans s4) ?_
      unfold shutM
      rw [if_neg (by simp), if_neg hn]
      rw [st_shut st (by omega)] at hv4
      exact hv4
    refine ⟨_, rfl, _, rfl, va, _, _, _, rfl, rfl, SqT.of ha, st_at (by omega), rfl, _, rfl, ?_⟩
    rw [dInt]
    refine iteB (fun h1 => ?_) (fun h1 => ?_)
    · refine ⟨_, rfl, _, rfl, va, _, _, _, rfl, rfl, SqT.of ha, st_at (by omega), _, rfl, rfl, _, rfl, ?_⟩
      rw [dInt]
      refine iteB (fun h2 => ?_) (fun h2 => ?_)
      · refine k .non H (Same.refl H) ?_
        unfold shutM
        rw [if_neg (by simp), if_pos ⟨by simpa using h1, by simpa using h2⟩]; rfl
      · exact last fun z => by
          have h2 : gm st.mates x = (x : Int) := by simpa using h2
          exact z.2 h2
    · refine iteF ?_
      exact last fun z => by
        have h1 : gm st.mates x = -1 := by simpa using h1
        exact z.1 h1
theorem ok_Rounds_shut {P : Program} {w : World} {K : PySem.W.Frag} {mg : Str → Option Value} {base : Heap} {A : Ad} (T : Txt K mg A) : FnOk P w K mg base CX0 1 A.f_Rounds_shut A.d_Rounds_shut ["self", "web", "state", "point"] (sp_R_shut true) := by
  obtain ⟨t_AMID, m_AMID⟩ := T.k_AMID
  refine T.F_Rounds_shut.ok sc_Rounds_shut (fun vs H Q E h => ?_) (fun cdv A' outer s H vs Q E hr h => ?_)
  · obtain ⟨u, o, v, m, x, st, rfl, _⟩ := h
    rfl
  · obtain ⟨u, o, v, m, x, st, rfl, hv, ⟨hlen, hrng⟩, hx, h10, k⟩ := h
    refine ⟨_, (pss_cons (ps_if (pt_cmpR op_ne (pe_ix (ixt (K := K)) (pv 2) (pv 3) (fun _ _ => rfl)) (pe_glob (v := .int (-1)) (by rfl) m_AMID ⟨_, rfl⟩) (nomark _))
(pss_one (ps_ret pe_non))
pss_nil)
(pss_one (ps_ret (pv 2)))), ?_⟩
    obtain ⟨va, rfl, ha⟩ := id hv
    refine ⟨_, rfl, _, rfl, va, _, _, _, rfl, rfl, SqT.of ha, st_at (by omega), rfl, _, rfl, ?_⟩
    rw [dInt]
    refine iteB (fun h1 => ?_) (fun h1 => ?_)
    · refine k .non H (Same.refl H) ?_
      unfold shutM
      rw [if_pos rfl, if_pos (by simpa using h1)]; rfl
    · refine ⟨_, rfl, k _ H (Same.refl H) ?_⟩
      unfold shutM
      rw [if_pos rfl, if_neg (by simpa using h1)]
      exact hv
theorem ok_R_shut {P : Program} {w : World} {K : PySem.W.Frag} {mg : Str → Option Value} {base : Heap} {A : Ad} (T : Txt K mg A) : ∀ all : Bool, FnOk P w K mg base CX0 1 (fShut A all) (dShut A all) ["self", "web", "state", "point"] (sp_R_shut all)
  | false => ok_Rings_shut T
  | true => ok_Rounds_shut T
theorem ok_Rings_good {P : Program} {w : World} {K : PySem.W.Frag} {mg : Str → Option Value} {base : Heap} {A : Ad} (T : Txt K mg A) : FnOk P w K mg base CX0 1 A.f_Rings_good A.d_Rings_good ["self", "web", "state"] (sp_Rings_good) := by
  refine T.F_Rings_good.ok sc_Rings_good (fun vs H Q E h => ?_) (fun cdv A' outer s H vs Q E hr h => ?_)
  · obtain ⟨u, o, v, st, rfl, _⟩ := h
    rfl
  · obtain ⟨u, o, v, st, rfl, hv, k⟩ := h
    refine ⟨_, (pss_one (ps_ret (pe_cmpR op_eq (pe_ix (ixt (K := K)) (pv 2) (pe_un un_neg pe_int) (fun _ _ => rfl)) pe_int (nomark _)))), ?_⟩
    obtain ⟨va, rfl, ha⟩ := id hv
    refine ⟨_, rfl, _, rfl, va, _, _, _, rfl, rfl, SqT.of ha, st_last st, rfl, ?_⟩
    rw [bI1]
    exact k
theorem ok_Rule_look {P : Program} {w : World} {K : PySem.W.Frag} {mg : Str → Option Value} {base : Heap} {A : Ad} (T : Txt K mg A) : FnOk P w K mg base CX0 1 A.f_Rule_look A.d_Rule_look ["self", "web"] (sp_Rule_look) := by
  refine T.F_Rule_look.ok sc_Rule_look (fun vs H Q E h => ?_) (fun cdv A' outer s H vs Q E hr h => ?_)
  · obtain ⟨u, v, rfl, _⟩ := h
    rfl
  · obtain ⟨u, v, rfl, k⟩ := h
    refine ⟨_, (pss_one (ps_ret pe_non)), ?_⟩
    exact k
theorem ok_Rule_left {P : Program} {w : World} {K : PySem.W.Frag} {mg : Str → Option Value} {base : Heap} {A : Ad} (T : Txt K mg A) : FnOk P w K mg base CX0 1 A.f_Rule_left A.d_Rule_left ["self", "web", "state", "k"] (sp_Rule_left) := by
  refine T.F_Rule_left.ok sc_Rule_left (fun vs H Q E h => ?_) (fun cdv A' outer s H vs Q E hr h => ?_)
  · obtain ⟨u, v, x, y, rfl, _⟩ := h
    rfl
  · obtain ⟨u, v, x, y, rfl, k⟩ := h
    refine ⟨_, (pss_one (ps_ret (pv 2))), ?_⟩
    exact ⟨_, rfl, k⟩
end Fw
end

section
set_option Elab.async false
set_option maxRecDepth 100000
set_option maxHeartbeats 4000000
set_option linter.all false
/-! D5: the methods that all rules share. -/
namespace Fw
open PySem PySem.Spec PyProof.Rows L2
theorem SV.ne {H : Hp} {v : V} {s : St} (h : SV H v (some s)) : v ≠ .non := by
  obtain ⟨a, rfl, _⟩ := h
  intro z; cases z
theorem nI_at {ps : List Nat} {i : Nat} {y : V} (h : ((nI ps).map V.int)[i]? = some y) : ∃ x, ps[i]? = some x ∧ y = .int (x : Int) := by
  unfold nI at h
  rw [List.map_map, List.getElem?_map] at h
  cases e : ps[i]? with
  | none => rw [e] at h; cases h
  | some x => rw [e] at h; exact ⟨x, rfl, (Option.some.inj h).symm⟩
theorem nI_len (ps : List Nat) : ((nI ps).map V.int).length = ps.length := by simp [nI]
theorem ok_Rule_shut_all {P : Program} {w : World} {K : PySem.W.Frag} {mg : Str → Option Value} {base : Heap} {A : Ad} (T : Txt K mg A) (all : Bool) : FnOk P w K mg base CX0 2 A.f_Rule_shut_all A.d_Rule_shut_all ["self", "web", "state", "points"] (sp_Rule_shut_all K A all) := by
  have G_R_shut : ∀ all : Bool, FnOk P w K mg base CX0 1 (fShut A all) (dShut A all) ["self", "web", "state", "point"] (sp_R_shut all) := fun all => ok_R_shut T all
  refine T.F_Rule_shut_all.ok sc_Rule_shut_all (fun vs H Q E h => ?_) (fun cdv A' outer s H vs Q E hr h => ?_)
  · obtain ⟨p, l, o, v, m, st, ps, rfl, _⟩ := h
    rfl
  · obtain ⟨p, l, o, v, m, st, ps, rfl, hr1, hv, hok, h10, hl, hps, k⟩ := h
    refine ⟨_, (pss_cons (ps_for PassesOwn.never rfl (pil (K := K) (pv 3)) (pg_name (i := 4) sc_Rule_shut_all.nd rfl (by first | exact Or.inl rfl | exact Or.inr rfl))
(pss_one (ps_if (pt_cmp (pc_notN (pv 2)))
(pss_one (ps_set (i := 2) sc_Rule_shut_all.nd rfl (by first | exact Or.inl rfl | exact Or.inr rfl) (pe_meth (pv 0) (T.cl_R all) (T.m_R_shut all) (G_R_shut all) (hr.mono (by decide)) (T.b_R_shut all) .nil pass0 (pa_cons (pv 1) (pa_cons (pv 2) (pa_cons (pv 4) pa_nil))))))
pss_nil)))
(pss_one (ps_ret (pv 2)))), ?_⟩
    refine ⟨_, rfl, l, rfl, ⟨_, hl⟩, for_list (K := K) (a := l) (xs := (nI ps).map V.int) (fun i σ H1 => ∃ v1 x, σ = [some (.ref p), some o, some v1, some (.ref l), x] ∧ Same H H1 ∧ SV H1 v1 (shutAllM all st (ps.take i)))
      ⟨v, Option.none, rfl, Same.refl H, hv⟩ (fun i σ H1 _ ⟨_, _, _, s1, _⟩ => s1.seq hl) ?_ ?_⟩
    · rintro i y σ H1 hi ⟨v1, x0, rfl, s1, hv1⟩
      obtain ⟨x, hx, rfl⟩ := nI_at hi
      have stp : shutAllM all st (ps.take (i + 1)) = (shutAllM all st (ps.take i)).bind fun s => shutM all s x := by rw [take_snoc hx, shutAllM_snoc]
      have okp := fun s => StOk.shutAll (all := all) (ps := ps.take i) hok s
      refine ⟨_, rfl, _, rfl, ?_⟩
      cases e : shutAllM all st (ps.take i) with
      | none =>
        rw [e] at hv1 stp
        have hv1 : v1 = .non := hv1
        subst hv1
        refine iteF ?_
        refine ⟨_, _, rfl, s1, ?_⟩
        rw [stp]; exact rfl
      | some s2 =>
        rw [e] at hv1 stp
        refine iteY (by simp [hv1.ne]) ?_
        obtain ⟨dx, hp⟩ := hr1.same s1
        refine ⟨_, rfl, p, dx, _, rfl, hp, rfl, _, rfl, _, rfl, _, rfl, .ref p, o, v1, m, x, s2, rfl, hv1, okp s2 e, hps x (List.mem_of_getElem? hx), h10, fun v3 H3 s3 hv3 => ?_⟩
        refine ⟨_, _, rfl, s1.trans s3, ?_⟩
        rw [stp]; exact hv3
    · rintro σ H1 ⟨v1, x0, rfl, s1, hv1⟩
      rw [nI_len, List.take_length] at hv1
      exact ⟨_, rfl, k _ H1 s1 hv1⟩
theorem ok_Rule_opened {P : Program} {w : World} {K : PySem.W.Frag} {mg : Str → Option Value} {base : Heap} {A : Ad} (T : Txt K mg A) (all : Bool) : FnOk P w K mg base CX0 3 A.f_Rule_opened A.d_Rule_opened ["self", "web"] (sp_Rule_opened A all) := by
  have G_Web_size : FnOk P w K mg base CX0 1 A.f_Web_size A.d_Web_size ["self"] (sp_Web_size A) := ok_Web_size T
  have G_Web_at : FnOk P w K mg base CX0 1 A.f_Web_at A.d_Web_at ["self", "point"] (sp_Web_at A) := ok_Web_at T
  have G_R_shut_all : ∀ all : Bool, FnOk P w K mg base CX0 2 A.f_Rule_shut_all A.d_Rule_shut_all ["self", "web", "state", "points"] (sp_Rule_shut_all K A all) := fun all => ok_Rule_shut_all T all
  have G_R_begin : ∀ all : Bool, FnOk P w K mg base CX0 2 A.f_Rings_begin A.d_Rings_begin ["self", "web"] (sp_Rings_begin A) := fun all => ok_Rings_begin T
  refine T.F_Rule_opened.ok sc_Rule_opened (fun vs H Q E h => ?_) (fun cdv A' outer s H vs Q E hr h => ?_)
  · obtain ⟨p, wb, m, W, rfl, _⟩ := h
    rfl
  · obtain ⟨p, wb, m, W, rfl, hr1, hW, hR, k⟩ := h
    refine ⟨_, (pss_cons (ps_setLc (i := 2) (own := [("point", 3)]) rfl sc_Rule_opened.nd rfl rfl (sw_true rfl rfl rfl (by decide +kernel)) (pi_range1 (by rfl) T.z_range (pa_cons (pe_meth0 (pv 1) T.cl_Web T.m_Web_size G_Web_size (hr.mono (by decide)) T.b_Web_size .nil pass0) pa_nil)) (blkOk_by (N := ["self", "web", "lone", "point"]) (sc := defScope s_Rule_opened) (by decide +kernel)) (fun _ _ _ _ _ => (pg_name (i := 3) sc_Rule_opened.nd rfl (by first | exact Or.inl rfl | exact Or.inr rfl))) (fun _ _ _ _ _ => (pts_one (pt_cmpR (eqd (K := K) hr.units) (pe_meth (pv 1) T.cl_Web T.m_Web_at G_Web_at (hr.mono (by decide)) T.b_Web_at .nil pass0 (pa_cons (pv 3) pa_nil)) (pe_lst pa_nil) (nomark _)))) (fun _ _ _ _ _ => (pv 3)))
(pss_one (ps_ret (pe_meth (pv 0) (T.cl_R all) (T.m_R_shut_all all) (G_R_shut_all all) (hr.mono (by decide)) T.b_Rule_shut_all .nil pass0 (pa_cons (pv 1) (pa_cons (pe_meth (pv 0) (T.cl_R all) (T.m_R_begin all) (G_R_begin all) (hr.mono (by decide)) T.b_Rings_begin .nil pass0 (pa_cons (pv 1) pa_nil)) (pa_cons (pv 2) pa_nil))))))), ?_⟩
    obtain ⟨dw, l, hp, hL⟩ := id hW
    have h10 := hR.ten
    refine ⟨_, rfl, wb, dw, _, rfl, hp, webF_no _ _ (by decide +kernel) (by decide +kernel), wb, m, W, rfl, hW, m, rfl, by omega, by omega, fun D hD => ?_⟩
    rw [Int.toNat_natCast]
    refine lc_range (lo := 0) (n := m) (fun i H1 => Same H H1 ∧ H1 D = some (.lst ((nI ((List.range i).filter fun x => (atP W x).isEmpty)).map V.int))) ⟨Same_new hD, upd_same⟩ ?_ ?_
    · rintro i H1 hi ⟨s1, hD1⟩
      rw [Int.zero_add]
      refine ⟨rfl, ?_⟩
      have hW1 := hW.same s1
      obtain ⟨dw1, l1, hp1, _⟩ := id hW1
      refine ⟨_, rfl, wb, dw1, _, rfl, hp1, webF_no _ _ (by decide +kernel) (by decide +kernel), _, rfl, wb, m, i, W, rfl, hW1, hR, fun q H2 s2 hq => ?_⟩
      refine ⟨Nat.zero_le _, fun q3 hq3 => ?_⟩
      have hqi : (upd H2 q3 (.lst [])) q = some (.lst ((nI (atP W i)).map V.int)) := by rw [upd_ne (ne_of_none hq hq3)]; exact hq
      refine ⟨_, _, dpIL (SqL.of hqi), dpIL (ns := []) (SqL.of upd_same), shIL _, shIL [], _, rfl, ?_⟩
      rw [eqvIL]
      have sA : Same H (upd H2 q3 (.lst [])) := (s1.trans s2).newer hq3
      have hDA : (upd H2 q3 (.lst [])) D = some (.lst ((nI ((List.range i).filter fun x => (atP W x).isEmpty)).map V.int)) := Same_new hq3 _ _ (s2 _ _ hD1)
      have stp : ((List.range (i + 1)).filter fun x => (atP W x).isEmpty) = ((List.range i).filter fun x => (atP W x).isEmpty) ++ (if (atP W i).isEmpty then [i] else []) := by
        rw [List.range_succ, List.filter_append]
        congr 1
        rw [List.filter_cons]; rfl
      have hdec : decide (nI (atP W i) = []) = (atP W i).isEmpty := by
        cases atP W i <;> simp [nI]
      rw [hdec]
      refine iteB (fun hc => ?_) (fun hc => ?_)
      · rw [if_pos hc] at stp
        refine ⟨_, rfl, _, hDA, szl ?_, sA.mut hD, ?_⟩
        · have := List.length_filter_le (fun x => (atP W x).isEmpty) (List.range i)
          simp [nI] at *; omega
        · rw [upd_same, stp]; simp [nI]
      · rw [if_neg (by rw [hc]; simp)] at stp
        refine ⟨sA, ?_⟩
        rw [hDA, stp]; simp
    · rintro H1 ⟨s1, hD1⟩
      have hW1 := hW.same s1
      obtain ⟨dx, hpp⟩ := hr1.same s1
      refine ⟨_, rfl, p, dx, _, rfl, hpp, rfl, _, rfl, ?_⟩
      refine ⟨_, rfl, p, dx, _, rfl, hpp, rfl, _, rfl, .ref p, wb, m, W, rfl, hW1, hR, fun v2 H2 s2 hv2 => ?_⟩
      refine ⟨_, rfl, p, D, .ref wb, v2, m, some (beginM m), loneP m W, rfl, hr1.same (s1.trans s2), hv2, fun s' e => by cases e; exact StOk.begin m, h10, SqL.of (s2 _ _ hD1), fun x hx => List.mem_range.mp (List.mem_filter.mp hx).1, fun v3 H3 s3 hv3 => ?_⟩
      exact k v3 H3 ((s1.trans s2).trans s3) hv3
theorem ok_Rule_stepped {P : Program} {w : World} {K : PySem.W.Frag} {mg : Str → Option Value} {base : Heap} {A : Ad} (T : Txt K mg A) (all : Bool) : FnOk P w K mg base CX0 3 A.f_Rule_stepped A.d_Rule_stepped ["self", "web", "state", "k", "taken", "last"] (sp_Rule_stepped K A all) := by
  have G_R_took : ∀ all : Bool, FnOk P w K mg base CX0 2 A.f_Rings_took A.d_Rings_took ["self", "web", "state", "k"] (sp_Rings_took A) := fun all => ok_Rings_took T
  have G_R_left : ∀ all : Bool, FnOk P w K mg base CX0 1 A.f_Rule_left A.d_Rule_left ["self", "web", "state", "k"] (sp_Rule_left) := fun all => ok_Rule_left T
  have G_R_shut_all : ∀ all : Bool, FnOk P w K mg base CX0 2 A.f_Rule_shut_all A.d_Rule_shut_all ["self", "web", "state", "points"] (sp_Rule_shut_all K A all) := fun all => ok_Rule_shut_all T all
  refine T.F_Rule_stepped.ok sc_Rule_stepped (fun vs H Q E h => ?_) (fun cdv A' outer s H vs Q E hr h => ?_)
  · obtain ⟨p, wb, l, v, m, kk, W, st, b, rfl, _⟩ := h
    rfl
  · obtain ⟨p, wb, l, v, m, kk, W, st, b, rfl, hr1, hW, hR, hv, hS, hk, hl, k⟩ := h
    refine ⟨_, (pss_cons (ps_if (pt_val (pv 4))
(pss_one (ps_set (i := 2) sc_Rule_stepped.nd rfl (by first | exact Or.inl rfl | exact Or.inr rfl) (pe_meth (pv 0) (T.cl_R all) (T.m_R_took all) (G_R_took all) (hr.mono (by decide)) T.b_Rings_took .nil pass0 (pa_cons (pv 1) (pa_cons (pv 2) (pa_cons (pv 3) pa_nil))))))
(pss_one (ps_set (i := 2) sc_Rule_stepped.nd rfl (by first | exact Or.inl rfl | exact Or.inr rfl) (pe_meth (pv 0) (T.cl_R all) (T.m_R_left all) (G_R_left all) (hr.mono (by decide)) T.b_Rule_left .nil pass0 (pa_cons (pv 1) (pa_cons (pv 2) (pa_cons (pv 3) pa_nil)))))))
(pss_one (ps_ret (pe_meth (pv 0) (T.cl_R all) (T.m_R_shut_all all) (G_R_shut_all all) (hr.mono (by decide)) T.b_Rule_shut_all .nil pass0 (pa_cons (pv 1) (pa_cons (pv 2) (pa_cons (pv 5) pa_nil))))))), ?_⟩
    obtain ⟨dx, hpp⟩ := id hr1
    have hpts := hR.pts _ (eW_mem hk)
    have hlast : ∀ x ∈ lastP W kk, x < m := fun x hx => by
      have := (List.mem_filter.mp hx).1
      simp only [List.mem_cons, List.not_mem_nil, or_false] at this
      rcases this with rfl | rfl
      · exact hpts.2.1
      · exact hpts.2.2
    refine ⟨_, rfl, _, rfl, ?_⟩
    cases b with
    | true =>
      refine iteT ?_
      refine ⟨_, rfl, p, dx, _, rfl, hpp, rfl, _, rfl, _, rfl, _, rfl, .ref p, v, wb, m, kk, W, st, rfl, hW, hR, hv, hS, hk, fun v2 H2 s2 hv2 => ?_⟩
      obtain ⟨dx2, hpp2⟩ := hr1.same s2
      refine ⟨_, rfl, p, dx2, _, rfl, hpp2, rfl, _, rfl, _, rfl, _, rfl, p, l, .ref wb, v2, m, _, lastP W kk, rfl, hr1.same s2, hv2, fun s' e => hS.took hpts.2.1 hpts.2.2 e, hR.ten, s2.seq hl, hlast, fun v3 H3 s3 hv3 => ?_⟩
      exact k v3 H3 (s2.trans s3) hv3
    | false =>
      refine iteF ?_
      refine ⟨_, rfl, p, dx, _, rfl, hpp, rfl, _, rfl, _, rfl, _, rfl, .ref p, .ref wb, v, .int kk, rfl, ?_⟩
      refine ⟨_, rfl, p, dx, _, rfl, hpp, rfl, _, rfl, _, rfl, _, rfl, p, l, .ref wb, v, m, some st, lastP W kk, rfl, hr1, hv, fun s' e => by cases e; exact hS, hR.ten, hl, hlast, fun v3 H3 s3 hv3 => ?_⟩
      exact k v3 H3 s3 hv3
theorem run_snoc {σ : Type} {step : σ → Nat → Bool → Option σ} (f : Nat → Bool) : ∀ (m k : Nat) (o : Option σ), run step f o k (m + 1) = (run step f o k m).bind fun s => step s (k + m) (f (k + m))
  | 0, k, o => rfl
  | m + 1, k, o => by
    show run step f (o.bind fun s => step s k (f k)) (k + 1) (m + 1) = _
    rw [run_snoc f m (k + 1)]
    show _ = (run step f (o.bind fun s => step s k (f k)) (k + 1) m).bind fun s => step s (k + (m + 1)) (f (k + (m + 1)))
    rw [show k + 1 + m = k + (m + 1) by omega]
theorem inNats (x : Nat) (S : List Nat) : inV (.int (x : Int)) ((nI S).map V.int) = S.contains x := by
  rw [inInts]
  unfold nI
  rw [List.contains_eq_mem]
  have : ((x : Int) ∈ S.map fun n : Nat => (n : Int)) ↔ x ∈ S := by
    constructor
    · intro h
      obtain ⟨y, hy, e⟩ := List.mem_map.mp h
      have : y = x := by omega
      rw [← this]; exact hy
    · intro h; exact List.mem_map.mpr ⟨x, h, rfl⟩
  by_cases h : x ∈ S
  · rw [decide_eq_true h, decide_eq_true (this.mpr h)]
  · rw [decide_eq_false h, decide_eq_false (fun z => h (this.mp z))]
theorem OkOpened {all : Bool} {many : Nat} {lone : List Nat} {s : St} (h : openedM all many lone = some s) : StOk many s := StOk.shutAll (fun s' e => by cases e; exact StOk.begin many) s h
theorem OkRun {all : Bool} {many : Nat} {W : List (Nat × Nat)} (hR : WRows many W) {f : Nat → Bool} {o : Option St} (ho : ∀ s, o = some s → StOk many s) : ∀ (m : Nat), m ≤ W.length → ∀ s, run (stepM all (eW W) (lastP W)) f o 0 m = some s → StOk many s
  | 0, _, s, h => ho s h
  | m + 1, hm, s, h => by
    rw [run_snoc, Nat.zero_add] at h
    cases e : run (stepM all (eW W) (lastP W)) f o 0 m with
    | none => rw [e] at h; cases h
    | some t =>
      rw [e] at h
      have hp := hR.pts _ (eW_mem (k := m) (by omega))
      exact (OkRun hR ho m (by omega) t e).step hp.2.1 hp.2.2 h
theorem ok_Rule_fits {P : Program} {w : World} {K : PySem.W.Frag} {mg : Str → Option Value} {base : Heap} {A : Ad} (T : Txt K mg A) (all : Bool) : FnOk P w K mg base CX0 4 A.f_Rule_fits A.d_Rule_fits ["self", "web", "some"] (sp_Rule_fits K A all) := by
  have G_R_look : ∀ all : Bool, FnOk P w K mg base CX0 1 A.f_Rule_look A.d_Rule_look ["self", "web"] (sp_Rule_look) := fun all => ok_Rule_look T
  have G_R_opened : ∀ all : Bool, FnOk P w K mg base CX0 3 A.f_Rule_opened A.d_Rule_opened ["self", "web"] (sp_Rule_opened A all) := fun all => ok_Rule_opened T all
  have G_last_points : FnOk P w K mg base CX0 2 A.f_last_points A.d_last_points ["web"] (sp_last_points A) := ok_last_points T
  have G_R_stepped : ∀ all : Bool, FnOk P w K mg base CX0 3 A.f_Rule_stepped A.d_Rule_stepped ["self", "web", "state", "k", "taken", "last"] (sp_Rule_stepped K A all) := fun all => ok_Rule_stepped T all
  have G_R_good : ∀ all : Bool, FnOk P w K mg base CX0 1 A.f_Rings_good A.d_Rings_good ["self", "web", "state"] (sp_Rings_good) := fun all => ok_Rings_good T
  refine T.F_Rule_fits.ok sc_Rule_fits (fun vs H Q E h => ?_) (fun cdv A' outer s H vs Q E hr h => ?_)
  · obtain ⟨p, wb, a, m, W, S, rfl, _⟩ := h
    rfl
  · obtain ⟨p, wb, a, m, W, S, rfl, hr1, hW, hR, ha, k⟩ := h
    refine ⟨_, (pss_cons (ps_expr (pe_meth (pv 0) (T.cl_R all) (T.m_R_look all) (G_R_look all) (hr.mono (by decide)) T.b_Rule_look .nil pass0 (pa_cons (pv 1) pa_nil)))
(pss_cons (ps_set (i := 3) sc_Rule_fits.nd rfl (by first | exact Or.inl rfl | exact Or.inr rfl) (pe_meth (pv 0) (T.cl_R all) (T.m_R_opened all) (G_R_opened all) (hr.mono (by decide)) T.b_Rule_opened .nil pass0 (pa_cons (pv 1) pa_nil)))
(pss_cons (ps_for PassesOwn.never rfl (pien (K := K) (by rfl) T.z_enumerate (pa_cons (pe_call G_last_points (hr.mono (by decide)) (by rfl) T.g_last_points T.F_last_points.kp T.b_last_points .nil pass0 (pa_cons (pv 1) pa_nil)) pa_nil)) (pgt (K := K) (n := 2) rfl (pgs_cons (pg_name (i := 4) sc_Rule_fits.nd rfl (by first | exact Or.inl rfl | exact Or.inr rfl)) (pgs_cons (pg_name (i := 5) sc_Rule_fits.nd rfl (by first | exact Or.inl rfl | exact Or.inr rfl)) pgs_nil)))
(pss_one (ps_if (pt_cmp (pc_notN (pv 3)))
(pss_one (ps_set (i := 3) sc_Rule_fits.nd rfl (by first | exact Or.inl rfl | exact Or.inr rfl) (pe_meth (pv 0) (T.cl_R all) (T.m_R_stepped all) (G_R_stepped all) (hr.mono (by decide)) T.b_Rule_stepped .nil pass0 (pa_cons (pv 1) (pa_cons (pv 3) (pa_cons (pv 4) (pa_cons (pe_cmpR (inq (K := K)) (pv 4) (pv 2) (by rfl)) (pa_cons (pv 5) pa_nil))))))))
pss_nil)))
(pss_one (ps_ret (pe_and (pe_cmp (pc_notN (pv 3)) rfl) (pe_one (pe_meth (pv 0) (T.cl_R all) (T.m_R_good all) (G_R_good all) (hr.mono (by decide)) T.b_Rings_good .nil pass0 (pa_cons (pv 1) (pa_cons (pv 3) pa_nil)))))))))), ?_⟩
    obtain ⟨dx, hpp⟩ := id hr1
    refine ⟨_, rfl, p, dx, _, rfl, hpp, rfl, _, rfl, .ref p, .ref wb, rfl, ?_⟩
    refine ⟨_, rfl, p, dx, _, rfl, hpp, rfl, _, rfl, p, wb, m, W, rfl, hr1, hW, hR, fun v1 H1 s1 hv1 => ?_⟩
    refine ⟨_, rfl, wb, m, W, rfl, hW.same s1, hR, fun q us H2 s2 _ hq hlen hus => ?_⟩
    have s12 := s1.trans s2
    refine ⟨q, us, rfl, SqL.of hq, ?_⟩
    have hseq : ∀ H3, Same H H3 → SqL K H3 a ((nI S).map V.int) ∨ SqT K H3 a ((nI S).map V.int) := fun H3 s3 => by
      rcases ha with z | z
      · exact .inl (s3.seq z)
      · right
        rcases z with z | z
        · left
          rcases z with z | ⟨o, z⟩
          · exact .inl (s3 _ _ z)
          · exact .inr ⟨o, s3 _ _ z⟩
        · exact .inr z
    refine for_it (walk_enum (K := K) (a := q) (xs := us)) (fun i σ H3 => ∃ v x y, σ = [some (.ref p), some (.ref wb), some (.ref a), some v, x, y] ∧ Same H2 H3 ∧ SV H3 v (run (stepM all (eW W) (lastP W)) (fun j => S.contains j) (openedM all m (loneP m W)) 0 i))
      ⟨v1, Option.none, Option.none, rfl, Same.refl H2, hv1.kt s2.kt⟩ (fun i σ H3 _ ⟨_, _, _, _, s3, _⟩ => SqL.of (s3 _ _ hq)) ?_ ?_
    · rintro i y σ H3 H4 hi ⟨v, x0, y0, rfl, s3, hv⟩ ⟨t, y1, y2, rfl, ht, rfl, e1, e2⟩
      cases e1
      have hiW : i < W.length := by omega
      obtain ⟨b, _, eb, hb⟩ := hus i hiW
      have e2 : us[i]? = some y2 := e2
      rw [eb] at e2
      cases e2
      refine ⟨t, _, rfl, SqT.of upd_same, rfl, _, _, rfl, _, _, rfl, rfl, ?_⟩
      have s4 : Same H2 (upd H3 t (.tup [.int i, .ref b])) := s3.newer ht
      have hv4 := hv.kt (KT.new ht (o := .tup [.int i, .ref b]))
      generalize (upd H3 t (.tup [.int i, .ref b])) = H4 at s4 hv4
      have stp := run_snoc (step := stepM all (eW W) (lastP W)) (fun j => S.contains j) i 0 (openedM all m (loneP m W))
      rw [Nat.zero_add] at stp
      have okp := OkRun (all := all) (f := fun j => S.contains j) hR (fun s => OkOpened (all := all) (many := m) (lone := loneP m W) (s := s)) i (by omega)
      refine ⟨_, rfl, _, rfl, ?_⟩
      cases e : run (stepM all (eW W) (lastP W)) (fun j => S.contains j) (openedM all m (loneP m W)) 0 i with
      | none =>
        rw [e] at hv4 stp
        have hv4 : v = .non := hv4
        subst hv4
        refine iteF ⟨_, _, _, rfl, s4, ?_⟩
        rw [stp]; exact rfl
      | some s5 =>
        rw [e] at hv4 stp
        refine iteY (by simp [hv4.ne]) ?_
        have sA := s12.trans s4
        obtain ⟨dx4, hp4⟩ := hr1.same sA
        refine ⟨_, rfl, p, dx4, _, rfl, hp4, rfl, _, rfl, _, rfl, _, rfl, _, rfl, _, rfl, a, _, rfl, hseq _ sA, rfl, flatInts _, ?_⟩
        rw [if_neg (by simp), inNats]
        refine ⟨_, rfl, p, wb, b, v, m, i, W, s5, _, rfl, hr1.same sA, hW.same sA, hR, hv4, okp s5 e, hiW, SqL.of (s4 _ _ hb), fun v6 H6 s6 hv6 => ?_⟩
        refine ⟨_, _, _, rfl, s4.trans s6, ?_⟩
        rw [stp]; exact hv6
    · rintro σ H3 ⟨v, x0, y0, rfl, s3, hv⟩
      rw [hlen] at hv
      have sA := s12.trans s3
      refine ⟨_, rfl, _, rfl, ?_⟩
      cases e : run (stepM all (eW W) (lastP W)) (fun j => S.contains j) (openedM all m (loneP m W)) 0 W.length with
      | none =>
        rw [e] at hv
        have hv : v = .non := hv
        subst hv
        refine iteF ?_
        have := k H3 sA
        rw [show accW all m W S = false by show acc _ _ _ _ _ _ = false; unfold acc; rw [e]] at this
        exact this
      | some s5 =>
        rw [e] at hv
        refine iteY (by simp [hv.ne]) ?_
        obtain ⟨dx4, hp4⟩ := hr1.same sA
        refine ⟨_, rfl, p, dx4, _, rfl, hp4, rfl, _, rfl, _, rfl, .ref p, .ref wb, v, s5, rfl, hv, ?_⟩
        have := k H3 sA
        rw [show accW all m W S = s5.closed by show acc _ _ _ _ _ _ = _; unfold acc; rw [e]; rfl] at this
        exact this
end Fw
end

section
set_option Elab.async false
set_option linter.all false
/-! G1: graphs of sets: what each knot leads to. Plain Lean. -/
namespace Fw
theorem knotSets_snoc (rows : List Kn) (r : Kn) : knotSets (rows ++ [r]) = setsGo (knotSets rows) r := by unfold knotSets; rw [List.foldl_append]; rfl
theorem setsGo_len (F : List (List (List Nat))) (r : Kn) : (setsGo F r).length = F.length + 1 := by unfold setsGo; simp
theorem foldl_len (rows : List Kn) : ∀ F : List (List (List Nat)), (rows.foldl setsGo F).length = F.length + rows.length := by
  induction rows with
  | nil => intro F; rfl
  | cons r rows ih => intro F; rw [List.foldl_cons, ih, setsGo_len, List.length_cons]; omega
theorem knotSets_len (rows : List Kn) : (knotSets rows).length = rows.length + 2 := by unfold knotSets; rw [foldl_len]; simp; omega
theorem foldl_getD (rows : List Kn) : ∀ (F : List (List (List Nat))) (x : Nat), x < F.length → (rows.foldl setsGo F).getD x [] = F.getD x [] := by
  induction rows with
  | nil => intro F x _; rfl
  | cons r rows ih =>
    intro F x hx
    rw [List.foldl_cons, ih _ _ (by rw [setsGo_len]; omega)]
    unfold setsGo
    rw [List.getD_eq_getElem?_getD, List.getElem?_append_left hx, List.getD_eq_getElem?_getD]
theorem setsAt_pre (rows more : List Kn) {x : Nat} (h : x < rows.length + 2) : setsAt (rows ++ more) x = setsAt rows x := by
  unfold setsAt knotSets
  rw [List.foldl_append]
  exact foldl_getD more _ x (by rw [foldl_len]; simp; omega)
theorem setsAt_new (rows : List Kn) (r : Kn) : setsAt (rows ++ [r]) (rows.length + 2) = setsAt rows r.2.1 ++ (setsAt rows r.2.2).map (r.1 :: ·) := by
  show (knotSets (rows ++ [r])).getD _ [] = _
  rw [knotSets_snoc, setsGo, List.getD_eq_getElem?_getD, List.getElem?_append_right (by rw [knotSets_len]; omega), knotSets_len]
  simp [setsAt]
theorem setsAt_zero (rows : List Kn) : setsAt rows 0 = [] := by
  have := setsAt_pre [] rows (x := 0) (by decide)
  rw [List.nil_append] at this
  rw [this]; rfl
theorem setsAt_one (rows : List Kn) : setsAt rows 1 = [[]] := by
  have := setsAt_pre [] rows (x := 1) (by decide)
  rw [List.nil_append] at this
  rw [this]; rfl
theorem setsAt_row {rows : List Kn} {j : Nat} {r : Kn} (h : rows[j]? = some r) (h1 : r.2.1 < j + 2) (h2 : r.2.2 < j + 2) : setsAt rows (j + 2) = setsAt rows r.2.1 ++ (setsAt rows r.2.2).map (r.1 :: ·) := by
  obtain ⟨hj, e⟩ := List.getElem?_eq_some_iff.mp h
  have hl : (rows.take j).length = j := by rw [List.length_take]; omega
  have e2 : rows = (rows.take j ++ [r]) ++ rows.drop (j + 1) := by
    rw [← e, List.append_assoc, List.singleton_append, List.getElem_cons_drop, List.take_append_drop]
  have e3 : ∀ x, x < j + 2 → setsAt rows x = setsAt (rows.take j) x := fun x hx => by
    conv => lhs; rw [← List.take_append_drop j rows]
    exact setsAt_pre _ _ (by rw [hl]; exact hx)
  rw [e3 _ h1, e3 _ h2]
  conv => lhs; rw [e2]
  rw [setsAt_pre _ _ (by simp [hl])]
  have := setsAt_new (rows.take j) r
  rw [hl] at this
  exact this
theorem tieAt_row {n : Nat} {rows : List Kn} {j : Nat} {r : Kn} (h : rows[j]? = some r) : tieAt n rows (j + 2) = r.1 := by
  unfold tieAt
  rw [if_neg (by omega), List.getD_eq_getElem?_getD, show j + 2 - 2 = j by omega, h]; rfl
theorem tieAt_pre {n : Nat} (rows more : List Kn) {x : Nat} (h : x < rows.length + 2) : tieAt n (rows ++ more) x = tieAt n rows x := by
  unfold tieAt
  split
  · rfl
  · rw [List.getD_eq_getElem?_getD, List.getElem?_append_left (by omega), List.getD_eq_getElem?_getD]
theorem Valid.nil (n : Nat) : Valid n [] := fun j r h => by simp at h
theorem Valid.snoc {n : Nat} {rows : List Kn} (V : Valid n rows) {r : Kn} (h0 : r.1 < n) (h1 : r.2.1 < rows.length + 2) (h2 : r.2.2 < rows.length + 2) (h3 : r.1 < tieAt n rows r.2.1) (h4 : r.1 < tieAt n rows r.2.2) : Valid n (rows ++ [r]) := fun j s h => by
  by_cases hj : j < rows.length
  · rw [List.getElem?_append_left hj] at h
    obtain ⟨a, b, c, d, e⟩ := V j s h
    refine ⟨a, b, c, ?_, ?_⟩
    · rw [tieAt_pre _ _ (by omega)]; exact d
    · rw [tieAt_pre _ _ (by omega)]; exact e
  · have hl := (List.getElem?_eq_some_iff.mp h).1
    rw [List.length_append, List.length_singleton] at hl
    have : j = rows.length := by omega
    subst this
    rw [List.getElem?_append_right (Nat.le_refl _)] at h
    simp at h
    subst h
    exact ⟨h0, h1, h2, by rw [tieAt_pre _ _ h1]; exact h3, by rw [tieAt_pre _ _ h2]; exact h4⟩
theorem Valid.at {n : Nat} {rows : List Kn} (V : Valid n rows) {x : Nat} (h : x < rows.length + 2) (h2 : 2 ≤ x) : ∃ r, rows[x - 2]? = some r ∧ r.1 < n ∧ r.2.1 < x ∧ r.2.2 < x ∧ r.1 < tieAt n rows r.2.1 ∧ r.1 < tieAt n rows r.2.2 ∧ tieAt n rows x = r.1 ∧
    setsAt rows x = setsAt rows r.2.1 ++ (setsAt rows r.2.2).map (r.1 :: ·) := by
  have hx : x - 2 < rows.length := by omega
  have e : rows[x - 2]? = some rows[x - 2] := List.getElem?_eq_getElem hx
  obtain ⟨a, b, c, d, f⟩ := V _ _ e
  have hxx : x - 2 + 2 = x := by omega
  have h3 := tieAt_row (n := n) e
  have h4 := setsAt_row e b c
  rw [hxx] at h3 h4 b c
  exact ⟨_, e, a, b, c, d, f, h3, h4⟩
theorem Valid.tie_le {n : Nat} {rows : List Kn} (V : Valid n rows) {x : Nat} (h : x < rows.length + 2) : tieAt n rows x ≤ n := by
  by_cases h2 : 2 ≤ x
  · obtain ⟨r, _, a, _, _, _, _, e, _⟩ := V.at h h2
    rw [e]; omega
  · unfold tieAt; rw [if_pos (by omega)]; exact Nat.le_refl n
theorem Valid.sets {n : Nat} {rows : List Kn} (V : Valid n rows) : ∀ (x : Nat), x < rows.length + 2 → (setsAt rows x).length ≤ 2 ^ (n - tieAt n rows x) ∧ ∀ X ∈ setsAt rows x, X.Pairwise (· < ·) ∧ ∀ t ∈ X, tieAt n rows x ≤ t ∧ t < n := by
  intro x
  induction x using Nat.strongRecOn with
  | ind x ih =>
    intro h
    by_cases h2 : 2 ≤ x
    · obtain ⟨r, _, a, b, c, d, f, e, q⟩ := V.at h h2
      obtain ⟨o1, o2⟩ := ih r.2.1 b (by omega)
      obtain ⟨i1, i2⟩ := ih r.2.2 c (by omega)
      have to := V.tie_le (x := r.2.1) (by omega)
      have ti := V.tie_le (x := r.2.2) (by omega)
      rw [q, e]
      constructor
      · rw [List.length_append, List.length_map]
        have p1 : 2 ^ (n - tieAt n rows r.2.1) ≤ 2 ^ (n - r.1 - 1) := Nat.pow_le_pow_right (by decide) (by omega)
        have p2 : 2 ^ (n - tieAt n rows r.2.2) ≤ 2 ^ (n - r.1 - 1) := Nat.pow_le_pow_right (by decide) (by omega)
        have p3 : 2 ^ (n - r.1) = 2 ^ (n - r.1 - 1) * 2 := by rw [← Nat.pow_succ]; congr 1; omega
        omega
      · intro X hX
        rcases List.mem_append.mp hX with hX | hX
        · obtain ⟨s, m⟩ := o2 X hX
          exact ⟨s, fun t ht => by have := m t ht; omega⟩
        · obtain ⟨Y, hY, rfl⟩ := List.mem_map.mp hX
          obtain ⟨s, m⟩ := i2 Y hY
          refine ⟨List.pairwise_cons.mpr ⟨fun t ht => by have := m t ht; omega, s⟩, fun t ht => ?_⟩
          rcases List.mem_cons.mp ht with rfl | ht
          · omega
          · have := m t ht; omega
    · have : x = 0 ∨ x = 1 := by omega
      rcases this with rfl | rfl
      · rw [setsAt_zero]; simp
      · rw [setsAt_one]
        refine ⟨Nat.one_le_two_pow, fun X hX => ?_⟩
        rw [List.mem_singleton.mp hX]; simp
theorem Valid.le12 {n : Nat} {rows : List Kn} (V : Valid n rows) (hn : n ≤ 12) {x : Nat} (h : x < rows.length + 2) : (setsAt rows x).length ≤ 4096 :=
  Nat.le_trans (V.sets x h).1 (Nat.le_trans (Nat.pow_le_pow_right (by decide) (by omega : n - tieAt n rows x ≤ 12)) (by decide))
/-- one step down -/
theorem Valid.less {n : Nat} {rows : List Kn} (V : Valid n rows) {x : Nat} (h : x < rows.length + 2) {y : Nat} {Y : List Nat} (hy : y < tieAt n rows x) : (y :: Y) ∉ setsAt rows x := fun z => by
  have := ((V.sets x h).2 _ z).2 y List.mem_cons_self
  omega
theorem Valid.take {n : Nat} {rows : List Kn} (V : Valid n rows) (i : Nat) : Valid n (rows.take i) := fun j r h => by
  have hj : j < (rows.take i).length := (List.getElem?_eq_some_iff.mp h).1
  rw [List.length_take] at hj
  have h' : rows[j]? = some r := by rw [List.getElem?_take] at h; split at h; exact h; cases h
  obtain ⟨a, b, c, d, e⟩ := V j r h'
  have hp : ∀ x, x < j + 2 → tieAt n rows x = tieAt n (rows.take i) x := fun x hx => by
    conv => lhs; rw [← List.take_append_drop i rows]
    exact tieAt_pre _ _ (by rw [List.length_take]; omega)
  exact ⟨a, b, c, by rw [← hp _ b]; exact d, by rw [← hp _ c]; exact e⟩
end Fw
end

section
set_option Elab.async false
set_option maxRecDepth 100000
set_option maxHeartbeats 4000000
set_option linter.all false
/-! D6: sieves. -/
namespace Fw
open PySem PySem.Spec PyProof.Rows L2
theorem ok_Sieve_init {P : Program} {w : World} {K : PySem.W.Frag} {mg : Str → Option Value} {base : Heap} {A : Ad} (T : Txt K mg A) : FnOk P w K mg base CX0 1 A.f_Sieve_init A.d_Sieve_init ["self", "wide", "rows", "start"] (sp_Sieve_init A) := by
  refine T.F_Sieve_init.ok sc_Sieve_init (fun vs H Q E h => ?_) (fun cdv A' outer s H vs Q E hr h => ?_)
  · obtain ⟨p, dx, l, n, t, rfl, _⟩ := h
    rfl
  · obtain ⟨p, dx, l, n, t, rfl, hp, k⟩ := h
    refine ⟨_, (pss_cons (ps_fld (pv 0) (pv 1) rfl)
(pss_cons (ps_fld (pv 0) (pv 2) rfl)
(pss_one (ps_fld (pv 0) (pv 3) rfl)))), ?_⟩
    refine ⟨_, rfl, _, rfl, p, A.c_Sieve, dx, [], rfl, hp, T.cl_Sieve, T.n_Sieve_wide, (by show 0 < 1000; decide), ?_⟩
    refine ⟨_, rfl, _, rfl, p, A.c_Sieve, dx, _, rfl, upd_same, T.cl_Sieve, T.n_Sieve_rows, (by show 1 < 1000; decide), ?_⟩
    refine ⟨_, rfl, _, rfl, p, A.c_Sieve, dx, _, rfl, upd_same, T.cl_Sieve, T.n_Sieve_start, (by show 2 < 1000; decide), ?_⟩
    refine k _ (fun b hb => ?_) upd_same
    rw [upd_ne hb, upd_ne hb, upd_ne hb]
theorem ok_Sieve_many {P : Program} {w : World} {K : PySem.W.Frag} {mg : Str → Option Value} {base : Heap} {A : Ad} (T : Txt K mg A) : FnOk P w K mg base CX0 1 A.f_Sieve_many A.d_Sieve_many ["self"] (sp_Sieve_many A) := by
  refine T.F_Sieve_many.ok sc_Sieve_many (fun vs H Q E h => ?_) (fun cdv A' outer s H vs Q E hr h => ?_)
  · obtain ⟨p, n, t, rows, rfl, _⟩ := h
    rfl
  · obtain ⟨p, n, t, rows, rfl, ⟨dx, l, hp, hL⟩, k⟩ := h
    refine ⟨_, (pss_one (ps_ret (fldK (K := K) (pv 0) rfl))), ?_⟩
    exact ⟨_, rfl, p, _, dx, _, _, rfl, hp, T.cl_Sieve, T.n_Sieve_wide, sieF_wide _ _ _, k⟩
theorem ok_Sieve_top {P : Program} {w : World} {K : PySem.W.Frag} {mg : Str → Option Value} {base : Heap} {A : Ad} (T : Txt K mg A) : FnOk P w K mg base CX0 1 A.f_Sieve_top A.d_Sieve_top ["self"] (sp_Sieve_top A) := by
  refine T.F_Sieve_top.ok sc_Sieve_top (fun vs H Q E h => ?_) (fun cdv A' outer s H vs Q E hr h => ?_)
  · obtain ⟨p, n, t, rows, rfl, _⟩ := h
    rfl
  · obtain ⟨p, n, t, rows, rfl, ⟨dx, l, hp, hL⟩, k⟩ := h
    refine ⟨_, (pss_one (ps_ret (fldK (K := K) (pv 0) rfl))), ?_⟩
    exact ⟨_, rfl, p, _, dx, _, _, rfl, hp, T.cl_Sieve, T.n_Sieve_start, sieF_start _ _ _, k⟩
theorem ok_Sieve_knots {P : Program} {w : World} {K : PySem.W.Frag} {mg : Str → Option Value} {base : Heap} {A : Ad} (T : Txt K mg A) : FnOk P w K mg base CX0 1 A.f_Sieve_knots A.d_Sieve_knots ["self"] (sp_Sieve_knots A) := by
  refine T.F_Sieve_knots.ok sc_Sieve_knots (fun vs H Q E h => ?_) (fun cdv A' outer s H vs Q E hr h => ?_)
  · obtain ⟨p, n, t, rows, rfl, _⟩ := h
    rfl
  · obtain ⟨p, n, t, rows, rfl, ⟨dx, l, hp, us, hl, hI⟩, k⟩ := h
    refine ⟨_, (pss_one (ps_ret (pe_callTy (lstof (K := K)) (by rfl) T.z_list (by decide +kernel) (pa_cons (fldK (K := K) (pv 0) rfl) pa_nil)))), ?_⟩
    refine ⟨_, rfl, p, _, dx, _, _, rfl, hp, T.cl_Sieve, T.n_Sieve_rows, sieF_rows _ _ _, l, us, rfl, .inl (SqL.of hl), fun q hq => ?_⟩
    exact k q _ (Same_new hq) hq ⟨us, upd_same, hI.kt (KT.new hq)⟩
/-- a sieve's methods: none is a field -/
theorem nosf (n : Int) (l : Addr) (t : Int) : (sieF n l t).lookup ("knots" : Str) = Option.none ∧ (sieF n l t).lookup ("top" : Str) = Option.none ∧ (sieF n l t).lookup ("many" : Str) = Option.none :=
  ⟨sieF_no _ _ _ (by decide +kernel) (by decide +kernel) (by decide +kernel), sieF_no _ _ _ (by decide +kernel) (by decide +kernel) (by decide +kernel), sieF_no _ _ _ (by decide +kernel) (by decide +kernel) (by decide +kernel)⟩
/-- found, as it grows -/
def FoundAt (H : Hp) (f : Addr) (rows : List Kn) : Prop := ∃ us, H f = some (.lst us) ∧ us.length = rows.length + 2 ∧ ∀ x, x < rows.length + 2 → ∃ a, a ≠ f ∧ us[x]? = some (.ref a) ∧ LL H a ((setsAt rows x).map nI)
theorem ok_knot_sets {P : Program} {w : World} {K : PySem.W.Frag} {mg : Str → Option Value} {base : Heap} {A : Ad} (T : Txt K mg A) : FnOk P w K mg base CX0 2 A.f_knot_sets A.d_knot_sets ["sieve"] (sp_knot_sets A) := by
  have G_Sieve_knots : FnOk P w K mg base CX0 1 A.f_Sieve_knots A.d_Sieve_knots ["self"] (sp_Sieve_knots A) := ok_Sieve_knots T
  refine T.F_knot_sets.ok sc_knot_sets (fun vs H Q E h => ?_) (fun cdv A' outer s H vs Q E hr h => ?_)
  · obtain ⟨p, n, t, rows, rfl, _⟩ := h
    rfl
  · obtain ⟨p, n, t, rows, rfl, hS, V, hn, hlen, k⟩ := h
    refine ⟨_, (pss_cons (ps_set (i := 1) sc_knot_sets.nd rfl (by first | exact Or.inl rfl | exact Or.inr rfl) (pe_lst (pa_cons (pe_lst pa_nil) (pa_cons (pe_lst (pa_cons (pe_tup pa_nil) pa_nil)) pa_nil))))
(pss_cons (ps_for PassesOwn.never rfl (pil (K := K) (pe_meth0 (pv 0) T.cl_Sieve T.m_Sieve_knots G_Sieve_knots (hr.mono (by decide)) T.b_Sieve_knots .nil pass0)) (pgt (K := K) (n := 3) rfl (pgs_cons (pg_name (i := 2) sc_knot_sets.nd rfl (by first | exact Or.inl rfl | exact Or.inr rfl)) (pgs_cons (pg_name (i := 3) sc_knot_sets.nd rfl (by first | exact Or.inl rfl | exact Or.inr rfl)) (pgs_cons (pg_name (i := 4) sc_knot_sets.nd rfl (by first | exact Or.inl rfl | exact Or.inr rfl)) pgs_nil))))
(pss_one (ps_expr (pe_bm PySem.F.plainAttrs_list PySem.F.slot_list_append PySem.F.type_list_append mt_append (pv 1) (pa_cons (pe_op op_cat (pe_ix (ixl (K := K)) (pv 1) (pv 3) (fun _ _ => rfl)) (pe_lc (own := [("some", 5)]) rfl sc_knot_sets.nd (pil (K := K) (pe_ix (ixl (K := K)) (pv 1) (pv 4) (fun _ _ => rfl))) (blkOk_by (N := ["sieve", "found", "tie", "out", "into", "some"]) (sc := defScope s_knot_sets) (by decide +kernel)) (fun _ _ _ _ _ => (pg_name (i := 5) sc_knot_sets.nd rfl (by first | exact Or.inl rfl | exact Or.inr rfl))) (fun _ _ _ _ _ => pts_nil) (fun _ _ _ _ _ => (pe_op (catt (K := K)) (pe_tup (pa_cons (pv 2) pa_nil)) (pv 5))))) pa_nil)))))
(pss_one (ps_ret (pv 1))))), ?_⟩
    -- found = [[], [()]]
    refine ⟨Nat.zero_le _, fun l0 hl0 => ?_⟩
    refine ⟨Nat.zero_le _, fun t0 ht0 => ?_⟩
    refine ⟨by show 1 ≤ sizeLine; decide, fun l1 hl1 => ?_⟩
    refine ⟨by show 2 ≤ sizeLine; decide, fun f hf => ?_⟩
    have s0 : Same H (upd (upd (upd (upd H l0 (.lst [])) t0 (.tup [])) l1 (.lst [.ref t0])) f (.lst [.ref l0, .ref l1])) := (((Same_new hl0).newer ht0).newer hl1).newer hf
    have hfH : H f = Option.none := (((Same_new hl0).newer ht0).newer hl1).free hf
    have F0 : FoundAt (upd (upd (upd (upd H l0 (.lst [])) t0 (.tup [])) l1 (.lst [.ref t0])) f (.lst [.ref l0, .ref l1])) f [] := by
      have nf0 : l0 ≠ f := ne_of_none (Same_new hl1 _ _ (Same_new ht0 _ _ upd_same)) hf
      have nft : t0 ≠ f := ne_of_none (Same_new hl1 _ _ upd_same) hf
      have nf1 : l1 ≠ f := ne_of_none upd_same hf
      refine ⟨_, upd_same, rfl, fun x hx => ?_⟩
      match x, hx with
      | 0, _ => exact ⟨l0, nf0, rfl, [], Same_new hf _ _ (Same_new hl1 _ _ (Same_new ht0 _ _ upd_same)), .nil⟩
      | 1, _ => exact ⟨l1, nf1, rfl, [.ref t0], Same_new hf _ _ upd_same, .cons ⟨t0, rfl, Same_new hf _ _ (Same_new hl1 _ _ upd_same)⟩ .nil⟩
    generalize (upd (upd (upd (upd H l0 (.lst [])) t0 (.tup [])) l1 (.lst [.ref t0])) f (.lst [.ref l0, .ref l1])) = H0 at s0 F0
    -- for tie, out, into in sieve.knots()
    obtain ⟨dx, l, hp, _⟩ := hS.same s0
    refine ⟨_, rfl, p, dx, _, rfl, hp, (nosf _ _ _).1, p, n, t, rows, rfl, hS.same s0, fun q H1 s1 hq0 hq => ?_⟩
    obtain ⟨us, hus, hI⟩ := hq
    have hul : us.length = rows.length := by rw [hI.len, List.length_map]
    have F1 : FoundAt H1 f [] := by
      obtain ⟨vs, a, b, c⟩ := F0
      exact ⟨vs, s1 _ _ a, b, fun x hx => let ⟨d, d1, d2, d3⟩ := c x hx; ⟨d, d1, d2, d3.same s1⟩⟩
    have hfq : f ≠ q := by
      obtain ⟨vs, a, b, c⟩ := F0
      exact ne_of_none a hq0
    refine ⟨q, rfl, ⟨_, SqL.of hus⟩, for_list (K := K) (a := q) (xs := us) (fun i σ H2 => ∃ v1 v2 v3 v4, σ = [some (.ref p), some (.ref f), v1, v2, v3, v4] ∧ Same H H2 ∧ H2 q = some (.lst us) ∧ KT H1 H2 ∧ FoundAt H2 f (rows.take i))
      ⟨_, _, _, _, rfl, s0.trans s1, hus, KT.refl H1, F1⟩ (fun i σ H2 _ ⟨_, _, _, _, _, _, z, _⟩ => SqL.of z) ?_ ?_⟩
    · rintro i y σ H2 hi ⟨v1, v2, v3, v4, rfl, s2, hq2, kt, vs, hf2, hvl, hvs⟩
      have hir : i < rows.length := by have := (List.getElem?_eq_some_iff.mp hi).1; omega
      have er : rows[i]? = some rows[i] := List.getElem?_eq_getElem hir
      generalize rows[i] = r at er
      obtain ⟨ns, e3, a, rfl, ha⟩ := hI.get hi
      rw [List.getElem?_map, er] at e3
      cases e3
      obtain ⟨w0, w1, w2, w3, w4⟩ := V i r er
      have hti : (rows.take i).length = i := by rw [List.length_take]; omega
      rw [hti] at hvl hvs
      have VT := V.take i
      refine ⟨a, _, rfl, SqT.of (kt _ _ ha), rfl, _, _, rfl, _, _, rfl, _, _, rfl, rfl, ?_⟩
      -- found[out]
      obtain ⟨ao, no, eo, us1, ho, hIo⟩ := hvs r.2.1 w1
      obtain ⟨ai, ni, ei, us2, hii, hIi⟩ := hvs r.2.2 w2
      have lo := hIo.len
      have li := hIi.len
      rw [List.length_map] at lo li
      have lo' := VT.le12 hn (x := r.2.1) (by omega)
      have li' := VT.le12 hn (x := r.2.2) (by omega)
      refine ⟨_, rfl, .inl ⟨rfl, _, SqL.of hf2⟩, ?_⟩
      refine ⟨_, rfl, _, rfl, f, vs, _, _, rfl, rfl, SqL.of hf2, atI_nat eo, ?_⟩
      refine ⟨_, rfl, _, rfl, f, vs, _, _, rfl, rfl, SqL.of hf2, atI_nat ei, ai, rfl, ⟨_, SqL.of hii⟩, fun D hD => ?_⟩
      refine lc_list (K := K) (a := ai) (xs := us2) (fun j H3 => Same H2 H3 ∧ LL H3 D (((setsAt (rows.take i) r.2.2).take j).map fun X => nI (r.1 :: X))) ⟨Same_new hD, [], upd_same, .nil⟩ (fun j H3 _ z => SqL.of (z.1 _ _ hii)) ?_ ?_
      · rintro j y H3 hj ⟨s3, ws, hD3, hI3⟩
        obtain ⟨ns, e5, hy⟩ := hIi.get hj
        have hjl : j < (setsAt (rows.take i) r.2.2).length := by have := (List.getElem?_eq_some_iff.mp hj).1; omega
        have eX : (setsAt (rows.take i) r.2.2)[j]? = some (setsAt (rows.take i) r.2.2)[j] := List.getElem?_eq_getElem hjl
        generalize (setsAt (rows.take i) r.2.2)[j] = X at eX
        rw [List.getElem?_map, eX] at e5
        cases e5
        refine ⟨rfl, yesIf ?_⟩
        refine ⟨_, rfl, by show 1 ≤ sizeLine; decide, fun t1 ht1 => ?_⟩
        have hXl : (nI X).length ≤ 12 := by
          have hX := List.mem_of_getElem? eX
          obtain ⟨p1, p2⟩ := (VT.sets r.2.2 (by omega)).2 X hX
          have := nd_le (l := X) (m := List.range n) (p1.imp fun h => Nat.ne_of_lt h) fun x hx => List.mem_range.mpr (p2 x hx).2
          simp [nI] at *; omega
        refine ⟨_, rfl, ?_⟩
        refine ctT (ns := [(r.1 : Int)]) ⟨t1, rfl, upd_same⟩ ((hy.kt s3.kt).kt (KT.new ht1)) (by simp; omega) fun v6 H4 s4 hv6 => ?_
        have hD4 : H4 D = some (.lst ws) := s4 _ _ (Same_new ht1 _ _ hD3)
        have s34 : Same H3 H4 := (Same_new ht1).trans s4
        have hwl : ws.length ≤ 4096 := by
          have := hI3.len
          rw [List.length_map, List.length_take] at this; omega
        refine ⟨ws, hD4, szl (by omega), (s3.trans s34).mut hD, ws ++ [v6], upd_same, ?_⟩
        have nt : KT H4 (upd H4 D (.lst (ws ++ [v6]))) := KT.mut hD4 trivial
        rw [take_snoc eX, List.map_append]
        exact ((hI3.kt s34.kt).kt nt).snoc (hv6.kt nt)
      · rintro H3 ⟨s3, ws, hD3, hI3⟩
        rw [li, List.take_length] at hI3
        have lw := hI3.len
        rw [List.length_map] at lw
        refine ⟨ao, D, us1, ws, rfl, rfl, s3 _ _ ho, hD3, sz (by omega), fun g hg => ?_⟩
        have nfg : f ≠ g := ne_of_none (s3 _ _ hf2) hg
        have hfH3 : (upd H3 g (.lst (us1 ++ ws))) f = some (.lst vs) := by rw [upd_ne nfg]; exact s3 _ _ hf2
        refine ⟨f, vs, _, rfl, rfl, hfH3, szl (by omega), ?_⟩
        have s4 : Same H2 (upd H3 g (.lst (us1 ++ ws))) := s3.newer hg
        have nt : KT (upd H3 g (.lst (us1 ++ ws))) (upd (upd H3 g (.lst (us1 ++ ws))) f (.lst (vs ++ [.ref g]))) := KT.mut hfH3 trivial
        refine ⟨_, _, _, _, rfl, (s2.trans s4).mut hfH, by rw [upd_ne hfq.symm]; exact s4 _ _ hq2, (kt.trans s4.kt).trans nt, vs ++ [.ref g], upd_same, by rw [List.length_append, List.length_take, hvl]; simp; omega, fun x hx => ?_⟩
        rw [List.length_take] at hx
        rw [take_snoc er]
        by_cases hxi : x = i + 2
        · subst hxi
          refine ⟨g, nfg.symm, by rw [List.getElem?_append_right (by omega), hvl]; simp, us1 ++ ws, by rw [upd_ne nfg.symm, upd_same], ?_⟩
          have e8 := setsAt_new (rows.take i) r
          rw [hti] at e8
          rw [e8, List.map_append, List.map_map]
          exact (hIo.kt (s4.kt.trans nt)).app (hI3.kt ((KT.new hg).trans nt))
        · obtain ⟨b, b1, b2, b3⟩ := hvs x (by omega)
          refine ⟨b, b1, by rw [List.getElem?_append_left (by omega)]; exact b2, ?_⟩
          rw [setsAt_pre _ _ (by omega)]
          exact (b3.same s4).kt nt (upd_ne b1)
    · rintro σ H2 ⟨v1, v2, v3, v4, rfl, s2, hq2, kt, vs, hf2, hvl, hvs⟩
      rw [hul, List.take_length] at hvl hvs
      exact ⟨_, rfl, k f vs H2 s2 hf2 hvl fun x hx => let ⟨a, _, b, c⟩ := hvs x hx; ⟨a, b, c⟩⟩
theorem ok_sets_of {P : Program} {w : World} {K : PySem.W.Frag} {mg : Str → Option Value} {base : Heap} {A : Ad} (T : Txt K mg A) : FnOk P w K mg base CX0 3 A.f_sets_of A.d_sets_of ["sieve"] (sp_sets_of A) := by
  have G_knot_sets : FnOk P w K mg base CX0 2 A.f_knot_sets A.d_knot_sets ["sieve"] (sp_knot_sets A) := ok_knot_sets T
  have G_Sieve_top : FnOk P w K mg base CX0 1 A.f_Sieve_top A.d_Sieve_top ["self"] (sp_Sieve_top A) := ok_Sieve_top T
  refine T.F_sets_of.ok sc_sets_of (fun vs H Q E h => ?_) (fun cdv A' outer s H vs Q E hr h => ?_)
  · obtain ⟨p, n, t, rows, rfl, _⟩ := h
    rfl
  · obtain ⟨p, n, t, rows, rfl, hS, V, hn, hlen, ht, k⟩ := h
    refine ⟨_, (pss_one (ps_ret (pe_ix (ixl (K := K)) (pe_call G_knot_sets (hr.mono (by decide)) (by rfl) T.g_knot_sets T.F_knot_sets.kp T.b_knot_sets .nil pass0 (pa_cons (pv 0) pa_nil)) (pe_meth0 (pv 0) T.cl_Sieve T.m_Sieve_top G_Sieve_top (hr.mono (by decide)) T.b_Sieve_top .nil pass0) (fun _ _ => rfl)))), ?_⟩
    refine ⟨_, rfl, p, n, t, rows, rfl, hS, V, hn, hlen, fun q us H1 s1 hq hul hus => ?_⟩
    obtain ⟨dx, l, hp, _⟩ := hS.same s1
    refine ⟨_, rfl, p, dx, _, rfl, hp, (nosf _ _ _).2.1, p, n, t, rows, rfl, hS.same s1, ?_⟩
    obtain ⟨a, ea, ha⟩ := hus t ht
    exact ⟨q, us, _, _, rfl, rfl, SqL.of hq, atI_nat ea, k a H1 s1 ha⟩
end Fw
end

section
set_option Elab.async false
set_option maxRecDepth 100000
set_option maxHeartbeats 4000000
set_option linter.all false
/-! D7: sets looked for in sieves. -/
namespace Fw
open PySem PySem.Spec PyProof.Rows L2
/-- the number that stands in a slot -/
def slotN (i : Nat) (σ : L2.St) : Nat := match σ[i]? with
  | some (some (.int z)) => z.toNat
  | _ => 0
theorem led_lt {n : Nat} {rows : List Kn} (V : Valid n rows) {x : Nat} {r : Kn} (hx : x < rows.length + 2) (h2 : 2 ≤ x) (e : rows[x - 2]? = some r) {y : Nat} {Y : List Nat} (h : y < r.1) : (y :: Y) ∉ setsAt rows x := by
  obtain ⟨r', e', a, b, c, d, f, g, q⟩ := V.at hx h2
  rw [e] at e'
  cases e'
  exact V.less hx (by rw [g]; exact h)
theorem led_eq {n : Nat} {rows : List Kn} (V : Valid n rows) {x : Nat} {r : Kn} (hx : x < rows.length + 2) (h2 : 2 ≤ x) (e : rows[x - 2]? = some r) {Y : List Nat} : (r.1 :: Y) ∈ setsAt rows x ↔ Y ∈ setsAt rows r.2.2 := by
  obtain ⟨r', e', a, b, c, d, f, g, q⟩ := V.at hx h2
  rw [e] at e'
  cases e'
  rw [q, List.mem_append]
  constructor
  · rintro (z | z)
    · exact absurd z (V.less (by omega) d)
    · obtain ⟨Z, hZ, e⟩ := List.mem_map.mp z
      cases e
      exact hZ
  · intro z
    exact .inr (List.mem_map.mpr ⟨Y, z, rfl⟩)
theorem led_out {n : Nat} {rows : List Kn} (V : Valid n rows) {x : Nat} {r : Kn} (hx : x < rows.length + 2) (h2 : 2 ≤ x) (e : rows[x - 2]? = some r) {X : List Nat} (h : ∀ y Y, X = y :: Y → y ≠ r.1) : X ∈ setsAt rows x ↔ X ∈ setsAt rows r.2.1 := by
  obtain ⟨r', e', a, b, c, d, f, g, q⟩ := V.at hx h2
  rw [e] at e'
  cases e'
  rw [q, List.mem_append]
  constructor
  · rintro (z | z)
    · exact z
    · obtain ⟨Z, hZ, e⟩ := List.mem_map.mp z
      exact absurd rfl (h r.1 Z e.symm)
  · exact .inl
theorem at_nI {S : List Nat} {j : Nat} {x : Nat} (h : S[j]? = some x) : atI ((nI S).map V.int) (j : Int) = some (V.int (x : Int)) := by
  refine atI_nat ?_
  unfold nI
  rw [List.map_map, List.getElem?_map, h]; rfl
theorem drop_at {S : List Nat} {j : Nat} {x : Nat} (h : S[j]? = some x) : S.drop j = x :: S.drop (j + 1) := by
  obtain ⟨hj, e⟩ := List.getElem?_eq_some_iff.mp h
  rw [← e, List.getElem_cons_drop]
theorem ok_led_to {P : Program} {w : World} {K : PySem.W.Frag} {mg : Str → Option Value} {base : Heap} {A : Ad} (T : Txt K mg A) : FnOk P w K mg base CX0 2 A.f_led_to A.d_led_to ["sieve", "knot", "some"] (sp_led_to A) := by
  have G_Sieve_knots : FnOk P w K mg base CX0 1 A.f_Sieve_knots A.d_Sieve_knots ["self"] (sp_Sieve_knots A) := ok_Sieve_knots T
  refine T.F_led_to.ok sc_led_to (fun vs H Q E h => ?_) (fun cdv A' outer s H vs Q E hr h => ?_)
  · obtain ⟨p, n, t, x, rows, v, S, rfl, _⟩ := h
    rfl
  · obtain ⟨p, n, t, x0, rows, v, S, rfl, hS, Vd, hx0, hv, hso, k⟩ := h
    refine ⟨_, (pss_cons (ps_set (i := 3) sc_led_to.nd rfl (by first | exact Or.inl rfl | exact Or.inr rfl) (pe_meth0 (pv 0) T.cl_Sieve T.m_Sieve_knots G_Sieve_knots (hr.mono (by decide)) T.b_Sieve_knots .nil pass0))
(pss_cons (ps_set (i := 4) sc_led_to.nd rfl (by first | exact Or.inl rfl | exact Or.inr rfl) pe_int)
(pss_cons (ps_while PassesOwn.never (pt_cmpR op_gt (pv 1) pe_int (nomark _))
(pss_cons (ps_asg (pe_ix (ixl (K := K)) (pv 3) (pe_op op_sub (pv 1) pe_int) (fun _ _ => rfl)) (pgt (K := K) (n := 3) rfl (pgs_cons (pg_name (i := 5) sc_led_to.nd rfl (by first | exact Or.inl rfl | exact Or.inr rfl)) (pgs_cons (pg_name (i := 6) sc_led_to.nd rfl (by first | exact Or.inl rfl | exact Or.inr rfl)) (pgs_cons (pg_name (i := 7) sc_led_to.nd rfl (by first | exact Or.inl rfl | exact Or.inr rfl)) pgs_nil)))))
(pss_cons (ps_if (pw_and (pt_cmpR op_lt (pv 4) (pe_callB (lens (K := K)) (by rfl) T.z_len (by decide +kernel) (pa_cons (pv 2) pa_nil)) (nomark _)) (pw_and1 (pt_cmpR op_lt (pe_ix (ixt (K := K)) (pv 2) (pv 4) (fun _ _ => rfl)) (pv 5) (nomark _)))).pt
(pss_one (ps_ret pe_int))
pss_nil)
(pss_one (ps_if (pw_and (pt_cmpR op_lt (pv 4) (pe_callB (lens (K := K)) (by rfl) T.z_len (by decide +kernel) (pa_cons (pv 2) pa_nil)) (nomark _)) (pw_and1 (pt_cmpR op_eq (pe_ix (ixt (K := K)) (pv 2) (pv 4) (fun _ _ => rfl)) (pv 5) (nomark _)))).pt
(pss_cons (ps_aug (i := 4) sc_led_to.nd rfl (.inl rfl) pe_int ip_add)
(pss_one (ps_set (i := 1) sc_led_to.nd rfl (by first | exact Or.inl rfl | exact Or.inr rfl) (pv 7))))
(pss_one (ps_set (i := 1) sc_led_to.nd rfl (by first | exact Or.inl rfl | exact Or.inr rfl) (pv 6))))))))
(pss_one (ps_ret (pe_callTy call_int1 (by rfl) T.z_int (by decide +kernel) (pa_cons (pe_and (pe_cmpR op_eq (pv 1) pe_int (nomark _)) (pe_one (pe_cmpR op_eq (pv 4) (pe_callB (lens (K := K)) (by rfl) T.z_len (by decide +kernel) (pa_cons (pv 2) pa_nil)) (nomark _)))) pa_nil))))))), ?_⟩
    obtain ⟨dx, l, hp, _⟩ := id hS
    refine ⟨_, rfl, p, dx, _, rfl, hp, (nosf _ _ _).1, p, n, t, rows, rfl, hS, fun q H1 s1 _ hq => ?_⟩
    obtain ⟨us, hus, hI⟩ := hq
    obtain ⟨va, rfl, ha⟩ := hv.kt s1.kt
    have hSl : (((nI S).map V.int)).length = S.length := nI_len S
    have kB : ∀ b : Bool, b = decide (S ∈ setsAt rows x0) → Q (.int (bI b)) H1 := fun b e => by rw [e]; exact k H1 s1
    refine while_by (fun σ H2 => ∃ (x j : Nat) (v5 v6 v7 : Option V), σ = [some (.ref p), some (.int (x : Int)), some (.ref va), some (.ref q), some (.int (j : Int)), v5, v6, v7] ∧ H2 = H1 ∧ x < rows.length + 2 ∧ j ≤ S.length ∧ (S ∈ setsAt rows x0 ↔ S.drop j ∈ setsAt rows x)) (fun σ _ => slotN 1 σ)
      ⟨x0, 0, Option.none, Option.none, Option.none, rfl, rfl, hx0, Nat.zero_le _, by simp⟩ ?_ ?_
    · rintro σ H2 ⟨x, j, v5, v6, v7, rfl, rfl, hx, hj, hiff⟩
      refine ⟨_, rfl, _, _, rfl, rfl, _, rfl, iteB (fun hc => ?_) (fun hc => ?_)⟩
      · have h2 : 2 ≤ x := by have := of_decide_eq_true hc; omega
        obtain ⟨r, er, w0, w1, w2, w3, w4, w5, w6⟩ := Vd.at hx h2
        have erk : (rows.map kI)[x - 2]? = some (kI r) := by rw [List.getElem?_map, er]; rfl
        obtain ⟨y, hy, a, rfl, hya⟩ := hI.at erk
        have ix : ((x : Int) - 2) = ((x - 2 : Nat) : Int) := by omega
        refine ⟨_, rfl, _, rfl, _, _, rfl, rfl, q, us, _, _, rfl, rfl, SqL.of hus, (by rw [ix]; exact atI_nat hy), ?_⟩
        refine ⟨a, _, rfl, SqT.of hya, rfl, _, _, rfl, _, _, rfl, _, _, rfl, rfl, ?_⟩
        -- the way without
        have goOut : (∀ y Y, S.drop j = y :: Y → y ≠ r.1) → ∃ (x' j' : Nat) (v5 v6 v7 : Option V), [some (V.ref p), some (.int (r.2.1 : Int)), some (.ref va), some (.ref q), some (.int (j : Int)), some (.int (r.1 : Int)), some (.int (r.2.1 : Int)), some (.int (r.2.2 : Int))] = [some (.ref p), some (.int (x' : Int)), some (.ref va), some (.ref q), some (.int (j' : Int)), v5, v6, v7] ∧ H2 = H2 ∧ x' < rows.length + 2 ∧ j' ≤ S.length ∧ (S ∈ setsAt rows x0 ↔ S.drop j' ∈ setsAt rows x') := fun hno =>
          ⟨r.2.1, j, _, _, _, rfl, rfl, by omega, hj, hiff.trans (led_out Vd hx h2 er hno)⟩
        have mu : ∀ (z : Nat) (σ : L2.St), z < x → σ[1]? = some (some (.int (z : Int))) → slotN 1 σ < slotN 1 [some (V.ref p), some (.int (x : Int)), some (.ref va), some (.ref q), some (.int (j : Int)), v5, v6, v7] := fun z σ hz e => by
          unfold slotN
          rw [e]
          show (z : Int).toNat < (x : Int).toNat
          rw [Int.toNat_natCast, Int.toNat_natCast]; exact hz
        refine ⟨_, rfl, _, rfl, va, _, rfl, .inr (SqT.of ha), _, _, rfl, rfl, _, rfl, ?_⟩
        rw [hSl]
        refine iteB (fun hjl => ?_) (fun hjl => ?_)
        · have hjl : j < S.length := by have := of_decide_eq_true hjl; omega
          have eS : S[j]? = some S[j] := List.getElem?_eq_getElem hjl
          generalize S[j] = s0 at eS
          have hd := drop_at eS
          refine ⟨_, rfl, _, rfl, va, _, _, _, rfl, rfl, SqT.of ha, at_nI eS, _, rfl, _, _, rfl, rfl, _, rfl, iteB (fun hlt => ?_) (fun hlt => ?_)⟩
          · refine kB false ?_
            symm
            refine decide_eq_false fun z => ?_
            rw [hiff, hd] at z
            exact led_lt Vd hx h2 er (by have := of_decide_eq_true hlt; simp at this; omega) z
          · refine ⟨_, rfl, _, rfl, va, _, rfl, .inr (SqT.of ha), _, _, rfl, rfl, _, rfl, ?_⟩
            rw [hSl]
            refine iteY (decide_eq_true (by omega)) ?_
            refine ⟨_, rfl, _, rfl, va, _, _, _, rfl, rfl, SqT.of ha, at_nI eS, _, rfl, rfl, _, rfl, ?_⟩
            rw [dInt]
            refine iteB (fun heq => ?_) (fun hne => ?_)
            · have heq : s0 = r.1 := by have := of_decide_eq_true heq; omega
              refine ⟨_, rfl, _, _, rfl, rfl, _, rfl, ⟨r.2.2, j + 1, _, _, _, rfl, rfl, by omega, by omega, ?_⟩, mu r.2.2 _ w2 rfl⟩
              rw [hiff, hd, heq]
              exact led_eq Vd hx h2 er
            · have hne : s0 ≠ r.1 := by have := of_decide_eq_false hne; omega
              exact ⟨_, rfl, goOut (fun y Y e => by rw [hd] at e; cases e; exact hne), mu r.2.1 _ w1 rfl⟩
        · have hjl : j = S.length := by have := of_decide_eq_false hjl; omega
          have hd : S.drop j = [] := by rw [hjl]; simp
          refine iteF ?_
          refine ⟨_, rfl, _, rfl, va, _, rfl, .inr (SqT.of ha), _, _, rfl, rfl, _, rfl, ?_⟩
          rw [hSl]
          refine iteN (decide_eq_false (by omega)) ?_
          exact ⟨_, rfl, goOut (fun y Y e => by rw [hd] at e; cases e), mu r.2.1 _ w1 rfl⟩
      · -- behind the loop
        have hx1 : x < 2 := by have := of_decide_eq_false hc; omega
        refine ⟨_, rfl, rfl, _, rfl, ?_⟩
        rw [dInt]
        refine iteB (fun h1 => ?_) (fun h1 => ?_)
        · have h1 : x = 1 := by have := of_decide_eq_true h1; omega
          subst h1
          refine ⟨_, rfl, _, rfl, va, _, rfl, .inr (SqT.of ha), rfl, ?_⟩
          rw [hSl, dInt]
          refine .inr ⟨_, rfl, kB _ ?_⟩
          by_cases z : j = S.length
          · rw [decide_eq_true (by omega), decide_eq_true]
            rw [hiff, setsAt_one, z]; simp
          · rw [decide_eq_false (by omega), decide_eq_false]
            rw [hiff, setsAt_one]
            intro q
            have := List.mem_singleton.mp q
            have := congrArg List.length this
            simp at this; omega
        · have h0 : x = 0 := by have := of_decide_eq_false h1; omega
          subst h0
          refine .inr ⟨_, rfl, kB false ?_⟩
          symm
          refine decide_eq_false fun z => ?_
          rw [hiff, setsAt_zero] at z
          cases z
    · rintro σ H2 Q1 Q2 hq ⟨v1, e1, i, j, a, b, c, d, f⟩
      exact ⟨v1, e1, i, j, a, b, c, d, hq _ _ f⟩
theorem ok_has_set {P : Program} {w : World} {K : PySem.W.Frag} {mg : Str → Option Value} {base : Heap} {A : Ad} (T : Txt K mg A) : FnOk P w K mg base CX0 3 A.f_has_set A.d_has_set ["sieve", "some"] (sp_has_set A) := by
  have G_led_to : FnOk P w K mg base CX0 2 A.f_led_to A.d_led_to ["sieve", "knot", "some"] (sp_led_to A) := ok_led_to T
  have G_Sieve_top : FnOk P w K mg base CX0 1 A.f_Sieve_top A.d_Sieve_top ["self"] (sp_Sieve_top A) := ok_Sieve_top T
  refine T.F_has_set.ok sc_has_set (fun vs H Q E h => ?_) (fun cdv A' outer s H vs Q E hr h => ?_)
  · obtain ⟨p, n, t, rows, v, S, rfl, _⟩ := h
    rfl
  · obtain ⟨p, n, t, rows, v, S, rfl, hS, Vd, ht, hv, hso, k⟩ := h
    refine ⟨_, (pss_one (ps_ret (pe_cmpR op_eq (pe_call G_led_to (hr.mono (by decide)) (by rfl) T.g_led_to T.F_led_to.kp T.b_led_to .nil pass0 (pa_cons (pv 0) (pa_cons (pe_meth0 (pv 0) T.cl_Sieve T.m_Sieve_top G_Sieve_top (hr.mono (by decide)) T.b_Sieve_top .nil pass0) (pa_cons (pv 1) pa_nil)))) pe_int (nomark _)))), ?_⟩
    obtain ⟨dx, l, hp, _⟩ := id hS
    refine ⟨_, rfl, _, rfl, p, dx, _, rfl, hp, (nosf _ _ _).2.1, p, n, t, rows, rfl, hS, ?_⟩
    refine ⟨_, rfl, p, n, t, t, rows, v, S, rfl, hS, Vd, ht, hv, hso, fun H1 s1 => ⟨rfl, ?_⟩⟩
    rw [bI1]
    exact k H1 s1
end Fw
end

section
set_option Elab.async false
set_option linter.all false
/-! G2: graphs made least: merged, reached, numbered. Plain Lean. -/
namespace Fw
structure MInv (n : Nat) (rows : List Kn) (i : Nat) (sm : List Nat) (ks : List Kn) : Prop where
  len : sm.length = i + 2
  val : Valid n ks
  kl : ks.length ≤ i
  at_ : ∀ x y, sm[x]? = some y → y < ks.length + 2 ∧ setsAt ks y = setsAt rows x ∧ tieAt n rows x ≤ tieAt n ks y
section
variable {n : Nat} {rows : List Kn} {i : Nat} {sm : List Nat} {ks : List Kn}
theorem MInv.start : MInv n rows 0 [0, 1] [] := ⟨rfl, Valid.nil n, Nat.le_refl 0, fun x y h => by
  match x, h with
  | 0, h => cases h; exact ⟨by decide, by rw [setsAt_zero, setsAt_zero], Nat.le_refl _⟩
  | 1, h => cases h; exact ⟨by decide, by rw [setsAt_one, setsAt_one], Nat.le_refl _⟩⟩
/-- a new last one -/
theorem MInv.push (M : MInv n rows i sm ks) {ks' : List Kn} {z : Nat} (V' : Valid n ks') (hl : ks'.length ≤ i + 1) (pre : ∀ y, y < ks.length + 2 → y < ks'.length + 2 ∧ setsAt ks' y = setsAt ks y ∧ tieAt n ks' y = tieAt n ks y)
    (hz : z < ks'.length + 2 ∧ setsAt ks' z = setsAt rows (i + 2) ∧ tieAt n rows (i + 2) ≤ tieAt n ks' z) : MInv n rows (i + 1) (sm ++ [z]) ks' := by
  refine ⟨by rw [List.length_append, M.len]; rfl, V', hl, fun x y h => ?_⟩
  by_cases hx : x < sm.length
  · rw [List.getElem?_append_left hx] at h
    obtain ⟨a, b, c⟩ := M.at_ x y h
    obtain ⟨p1, p2, p3⟩ := pre y a
    exact ⟨p1, p2.trans b, by rw [p3]; exact c⟩
  · rw [List.getElem?_append_right (by omega)] at h
    have h2 := (List.getElem?_eq_some_iff.mp h).1
    simp at h2
    have : x = sm.length := by omega
    subst this
    simp at h
    subst h
    rw [M.len]
    exact hz
theorem MInv.nums (M : MInv n rows i sm ks) (Vr : Valid n rows) {r : Kn} (hr : rows[i]? = some r) : ∃ yo yi, sm[r.2.1]? = some yo ∧ sm[r.2.2]? = some yi ∧ yo < ks.length + 2 ∧ yi < ks.length + 2 ∧ setsAt ks yo = setsAt rows r.2.1 ∧ setsAt ks yi = setsAt rows r.2.2 ∧ r.1 < tieAt n ks yo ∧ r.1 < tieAt n ks yi ∧ r.1 < n ∧
    setsAt rows (i + 2) = setsAt rows r.2.1 ++ (setsAt rows r.2.2).map (r.1 :: ·) ∧ tieAt n rows (i + 2) = r.1 := by
  obtain ⟨a, b, c, d, e⟩ := Vr i r hr
  have h1 : sm[r.2.1]? = some (sm[r.2.1]'(by rw [M.len]; exact b)) := List.getElem?_eq_getElem _
  have h2 : sm[r.2.2]? = some (sm[r.2.2]'(by rw [M.len]; exact c)) := List.getElem?_eq_getElem _
  obtain ⟨p1, p2, p3⟩ := M.at_ _ _ h1
  obtain ⟨q1, q2, q3⟩ := M.at_ _ _ h2
  exact ⟨_, _, h1, h2, p1, q1, p2, q2, by omega, by omega, a, setsAt_row hr b c, tieAt_row hr⟩
theorem MInv.skip (M : MInv n rows i sm ks) (Vr : Valid n rows) {r : Kn} (hr : rows[i]? = some r) {yo : Nat} (h1 : sm[r.2.1]? = some yo) (h2 : sm[r.2.2]? = some 0) : MInv n rows (i + 1) (sm ++ [yo]) ks := by
  obtain ⟨a, b, e1, e2, a1, b1, a2, b2, a3, b3, c, d, f⟩ := M.nums Vr hr
  rw [h1] at e1; cases e1
  rw [h2] at e2; cases e2
  refine M.push M.val (by have := M.kl; omega) (fun y hy => ⟨hy, rfl, rfl⟩) ⟨a1, ?_, by rw [f]; omega⟩
  rw [setsAt_zero] at b2
  rw [a2, d, ← b2]; simp
theorem MInv.old (M : MInv n rows i sm ks) (Vr : Valid n rows) {r : Kn} (hr : rows[i]? = some r) {yo yi j : Nat} (h1 : sm[r.2.1]? = some yo) (h2 : sm[r.2.2]? = some yi) (hj : ks[j]? = some (r.1, yo, yi)) : MInv n rows (i + 1) (sm ++ [j + 2]) ks := by
  obtain ⟨a, b, e1, e2, a1, b1, a2, b2, a3, b3, c, d, f⟩ := M.nums Vr hr
  rw [h1] at e1; cases e1
  rw [h2] at e2; cases e2
  obtain ⟨v1, v2, v3, v4, v5⟩ := M.val j _ hj
  have hjl := (List.getElem?_eq_some_iff.mp hj).1
  refine M.push M.val (by have := M.kl; omega) (fun y hy => ⟨hy, rfl, rfl⟩) ⟨by omega, ?_, ?_⟩
  · rw [setsAt_row hj v2 v3, d]
    show setsAt ks yo ++ (setsAt ks yi).map (r.1 :: ·) = _
    rw [a2, b2]
  · rw [f, tieAt_row hj]; exact Nat.le_refl _
theorem MInv.new (M : MInv n rows i sm ks) (Vr : Valid n rows) {r : Kn} (hr : rows[i]? = some r) {yo yi : Nat} (h1 : sm[r.2.1]? = some yo) (h2 : sm[r.2.2]? = some yi) : MInv n rows (i + 1) (sm ++ [ks.length + 2]) (ks ++ [(r.1, yo, yi)]) := by
  obtain ⟨a, b, e1, e2, a1, b1, a2, b2, a3, b3, c, d, f⟩ := M.nums Vr hr
  rw [h1] at e1; cases e1
  rw [h2] at e2; cases e2
  have V' : Valid n (ks ++ [(r.1, yo, yi)]) := M.val.snoc c a1 b1 a3 b3
  have hl : (ks ++ [(r.1, yo, yi)])[ks.length]? = some (r.1, yo, yi) := by simp
  refine M.push V' (by have := M.kl; rw [List.length_append]; simp; exact this) (fun y hy => ⟨by rw [List.length_append]; simp; omega, setsAt_pre _ _ hy, tieAt_pre _ _ hy⟩) ⟨by simp, ?_, ?_⟩
  · rw [setsAt_new, d]
    show setsAt ks yo ++ (setsAt ks yi).map (r.1 :: ·) = _
    rw [a2, b2]
  · rw [f, tieAt_row hl]; exact Nat.le_refl _
end
/-! reached -/
structure RInv (ks : List Kn) (t : Nat) (F : List Nat) (Wt : List Nat) : Prop where
  nd : F.Nodup
  rng : ∀ x ∈ F, 2 ≤ x ∧ x < ks.length + 2
  wrng : ∀ x ∈ Wt, x < ks.length + 2
  top : 2 ≤ t → t ∈ F ∨ t ∈ Wt
  cl : ∀ x ∈ F, ∀ r, ks[x - 2]? = some r → (2 ≤ r.2.1 → r.2.1 ∈ F ∨ r.2.1 ∈ Wt) ∧ (2 ≤ r.2.2 → r.2.2 ∈ F ∨ r.2.2 ∈ Wt)
theorem RInv.start {ks : List Kn} {t : Nat} (h : t < ks.length + 2) : RInv ks t [] [t] :=
  ⟨List.nodup_nil, (fun x hx => nomatch hx), (fun x hx => by rw [List.mem_singleton.mp hx]; exact h), (fun _ => .inr List.mem_cons_self), (fun x hx => nomatch hx)⟩
theorem mem_last {α : Type} {W : List α} {x y : α} (h : y ∈ W ++ [x]) : y ∈ W ∨ y = x := by
  rcases List.mem_append.mp h with z | z
  · exact .inl z
  · exact .inr (List.mem_singleton.mp z)
theorem RInv.drop {ks : List Kn} {t : Nat} {F W : List Nat} {x : Nat} (R : RInv ks t F (W ++ [x])) (h : x < 2 ∨ x ∈ F) : RInv ks t F W := by
  have key : ∀ y, 2 ≤ y → (y ∈ F ∨ y ∈ W ++ [x]) → y ∈ F ∨ y ∈ W := fun y hy q => by
    rcases q with q | q
    · exact .inl q
    · rcases mem_last q with q | q
      · exact .inr q
      · subst q
        rcases h with h | h
        · omega
        · exact .inl h
  exact ⟨R.nd, R.rng, fun y hy => R.wrng y (List.mem_append_left _ hy), fun ht => key t ht (R.top ht), fun y hy r hr => ⟨fun z => key _ z ((R.cl y hy r hr).1 z), fun z => key _ z ((R.cl y hy r hr).2 z)⟩⟩
theorem RInv.add {n : Nat} {ks : List Kn} (V : Valid n ks) {t : Nat} {F W : List Nat} {x : Nat} {r : Kn} (R : RInv ks t F (W ++ [x])) (h2 : 2 ≤ x) (hx : x ∉ F) (hr : ks[x - 2]? = some r) : RInv ks t (F ++ [x]) (W ++ [r.2.1, r.2.2]) := by
  have hxl := R.wrng x (List.mem_append_right _ List.mem_cons_self)
  obtain ⟨_, b, c, _, _⟩ := V _ _ hr
  have key : ∀ y, (y ∈ F ∨ y ∈ W ++ [x]) → y ∈ F ++ [x] ∨ y ∈ W ++ [r.2.1, r.2.2] := fun y q => by
    rcases q with q | q
    · exact .inl (List.mem_append_left _ q)
    · rcases mem_last q with q | q
      · exact .inr (List.mem_append_left _ q)
      · subst q; exact .inl (List.mem_append_right _ List.mem_cons_self)
  refine ⟨?_, fun y hy => ?_, fun y hy => ?_, fun ht => key t (R.top ht), fun y hy r' hr' => ?_⟩
  · rw [List.nodup_append]
    exact ⟨R.nd, by simp, by intro a ha c hc; rw [List.mem_singleton.mp hc]; exact fun z => hx (z ▸ ha)⟩
  · rcases mem_last hy with q | q
    · exact R.rng y q
    · rw [q]; exact ⟨h2, hxl⟩
  · rcases List.mem_append.mp hy with q | q
    · exact R.wrng y (List.mem_append_left _ q)
    · simp only [List.mem_cons, List.not_mem_nil, or_false] at q
      rcases q with q | q <;> omega
  · rcases mem_last hy with q | q
    · exact ⟨fun z => key _ ((R.cl y q r' hr').1 z), fun z => key _ ((R.cl y q r' hr').2 z)⟩
    · subst q
      rw [hr] at hr'
      cases hr'
      exact ⟨fun _ => .inr (List.mem_append_right _ (by simp)), fun _ => .inr (List.mem_append_right _ (by simp))⟩
theorem RInv.small {ks : List Kn} {t : Nat} {F W : List Nat} (R : RInv ks t F W) : F.length ≤ ks.length + 2 := by
  have := nd_le (l := F) (m := List.range (ks.length + 2)) R.nd fun x hx => List.mem_range.mpr (R.rng x hx).2
  simpa using this
/-! numbered -/
/-- a knot has its number, by what it leads to -/
def NumOk (n : Nat) (ks R : List Kn) (x y : Nat) : Prop := y < R.length + 2 ∧ setsAt R y = setsAt ks x ∧ tieAt n R y = tieAt n ks x
theorem NumOk.pre {n : Nat} {ks R more : List Kn} {x y : Nat} (h : NumOk n ks R x y) : NumOk n ks (R ++ more) x y :=
  ⟨by rw [List.length_append]; have := h.1; omega, by rw [setsAt_pre _ _ h.1]; exact h.2.1, by rw [tieAt_pre _ _ h.1]; exact h.2.2⟩
theorem NumOk.new {n : Nat} {ks R : List Kn} (V : Valid n ks) (VR : Valid n R) {x yo yi : Nat} {r : Kn} (hx : x < ks.length + 2) (h2 : 2 ≤ x) (hr : ks[x - 2]? = some r) (ho : NumOk n ks R r.2.1 yo) (hi : NumOk n ks R r.2.2 yi) :
    Valid n (R ++ [(r.1, yo, yi)]) ∧ NumOk n ks (R ++ [(r.1, yo, yi)]) x (R.length + 2) := by
  obtain ⟨r', e, a, b, c, d, f, g, q⟩ := V.at hx h2
  rw [hr] at e; cases e
  have hl : (R ++ [(r.1, yo, yi)])[R.length]? = some (r.1, yo, yi) := by simp
  refine ⟨VR.snoc a ho.1 hi.1 (by rw [ho.2.2]; exact d) (by rw [hi.2.2]; exact f), by simp, ?_, ?_⟩
  · rw [setsAt_new, q]
    show setsAt R yo ++ (setsAt R yi).map (r.1 :: ·) = _
    rw [ho.2.1, hi.2.1]
  · rw [tieAt_row hl, g]
end Fw
end

section
set_option Elab.async false
set_option maxRecDepth 100000
set_option maxHeartbeats 4000000
set_option linter.all false
/-! D8: graphs looked at, merged, reached. -/
namespace Fw
open PySem PySem.Spec PyProof.Rows L2
theorem ok_look_many {P : Program} {w : World} {K : PySem.W.Frag} {mg : Str → Option Value} {base : Heap} {A : Ad} (T : Txt K mg A) : FnOk P w K mg base CX0 1 A.f_look_many A.d_look_many ["n"] (sp_look_many) := by
  obtain ⟨t_MOST_TIES_making, m_MOST_TIES_making⟩ := T.k_MOST_TIES_making
  refine T.F_look_many.ok sc_look_many (fun vs H Q E h => ?_) (fun cdv A' outer s H vs Q E hr h => ?_)
  · obtain ⟨n, rfl, _⟩ := h
    rfl
  · obtain ⟨n, rfl, hn, k⟩ := h
    refine ⟨_, (pss_one (ps_if (pw_or (pt_cmpR op_lt (pv 0) pe_int (nomark _)) (pw_or1 (pt_cmpR op_gt (pv 0) (pe_glob (v := .int 12) (by rfl) m_MOST_TIES_making ⟨_, rfl⟩) (nomark _)))).pt
(pss_one ps_never)
pss_nil)), ?_⟩
    refine ⟨_, rfl, _, _, rfl, rfl, _, rfl, iteN (decide_eq_false (by omega)) ?_⟩
    exact ⟨_, rfl, _, _, rfl, rfl, _, rfl, iteN (decide_eq_false (by omega)) k⟩
def kk (r : Kn) : List Key := (kI r).map Sum.inl
theorem kk_val (r : Kn) : (kk r).map kV = (kI r).map V.int := by unfold kk; rw [List.map_map]; rfl
theorem kI_inj {a b : Kn} (h : kI a = kI b) : a = b := by
  obtain ⟨a1, a2, a3⟩ := a
  obtain ⟨b1, b2, b3⟩ := b
  simp only [kI, List.cons.injEq, and_true] at h
  simp only [Prod.mk.injEq]
  omega
theorem kk_inj {a b : Kn} (h : kk a = kk b) : a = b := by
  apply kI_inj
  unfold kk at h
  exact List.map_inj_right (fun x y e => Sum.inl.inj e) |>.mp h
/-- what known holds -/
def Known (kvs : List (List Key × V)) (ks : List Kn) : Prop := kvs.length = ks.length ∧ ∀ r v, valV kvs (kk r) = some v → ∃ j, v = .int ((j + 2 : Nat) : Int) ∧ ks[j]? = some r
theorem Known.new {kvs : List (List Key × V)} {ks : List Kn} (h : Known kvs ks) {r : Kn} (hn : valV kvs (kk r) = Option.none) : Known (putK kvs (kk r) (.int ((ks.length + 2 : Nat) : Int))) (ks ++ [r]) := by
  refine ⟨by rw [putK_new _ hn, List.length_append, List.length_append, h.1]; rfl, fun s v e => ?_⟩
  rw [valV_put] at e
  by_cases q : kk s = kk r
  · rw [if_pos q] at e
    cases e
    have := kk_inj q
    subst this
    exact ⟨ks.length, rfl, by simp⟩
  · rw [if_neg q] at e
    obtain ⟨j, a, b⟩ := h.2 s v e
    exact ⟨j, a, by rw [List.getElem?_append_left (List.getElem?_eq_some_iff.mp b).1]; exact b⟩
theorem ok_merged_knots {P : Program} {w : World} {K : PySem.W.Frag} {mg : Str → Option Value} {base : Heap} {A : Ad} (T : Txt K mg A) : FnOk P w K mg base CX0 1 A.f_merged_knots A.d_merged_knots ["rows"] (sp_merged_knots) := by
  refine T.F_merged_knots.ok sc_merged_knots (fun vs H Q E h => ?_) (fun cdv A' outer s H vs Q E hr h => ?_)
  · obtain ⟨l, n, rows, rfl, _⟩ := h
    rfl
  · obtain ⟨l, n, rows, rfl, ⟨us, hl, hI⟩, Vr, hlen, k⟩ := h
    have hu := hu_of hr
    have hul : us.length = rows.length := by rw [hI.len, List.length_map]
    refine ⟨_, (pss_cons (ps_set (i := 1) sc_merged_knots.nd rfl (by first | exact Or.inl rfl | exact Or.inr rfl) (pe_lst (pa_cons pe_int (pa_cons pe_int pa_nil))))
(pss_cons (ps_set (i := 2) sc_merged_knots.nd rfl (by first | exact Or.inl rfl | exact Or.inr rfl) pe_dnewT)
(pss_cons (ps_set (i := 3) sc_merged_knots.nd rfl (by first | exact Or.inl rfl | exact Or.inr rfl) (pe_lst (pa_cons pe_non (pa_cons pe_non pa_nil))))
(pss_cons (ps_for PassesOwn.never rfl (pil (K := K) (pv 0)) (pgt (K := K) (n := 3) rfl (pgs_cons (pg_name (i := 4) sc_merged_knots.nd rfl (by first | exact Or.inl rfl | exact Or.inr rfl)) (pgs_cons (pg_name (i := 5) sc_merged_knots.nd rfl (by first | exact Or.inl rfl | exact Or.inr rfl)) (pgs_cons (pg_name (i := 6) sc_merged_knots.nd rfl (by first | exact Or.inl rfl | exact Or.inr rfl)) pgs_nil))))
(pss_cons (ps_set (i := 7) sc_merged_knots.nd rfl (by first | exact Or.inl rfl | exact Or.inr rfl) (pe_tup (pa_cons (pv 4) (pa_cons (pe_ix (ixl (K := K)) (pv 1) (pv 5) (fun _ _ => rfl)) (pa_cons (pe_ix (ixl (K := K)) (pv 1) (pv 6) (fun _ _ => rfl)) pa_nil)))))
(pss_cons (ps_if (pt_cmpR op_eq (pe_ix (ixt (K := K)) (pv 7) pe_int (fun _ _ => rfl)) pe_int (nomark _))
(pss_cons (ps_expr (pe_bm PySem.F.plainAttrs_list PySem.F.slot_list_append PySem.F.type_list_append mt_append (pv 1) (pa_cons (pe_ix (ixt (K := K)) (pv 7) pe_int (fun _ _ => rfl)) pa_nil)))
(pss_one ps_continue))
pss_nil)
(pss_cons (ps_if (pt_cmp (pc_dnotin hu (pv 7) (pv 2)))
(pss_cons (ps_dput hu (pv 2) (pv 7) (pe_callB (lens (K := K)) (by rfl) T.z_len (by decide +kernel) (pa_cons (pv 3) pa_nil)) rfl)
(pss_one (ps_expr (pe_bm PySem.F.plainAttrs_list PySem.F.slot_list_append PySem.F.type_list_append mt_append (pv 3) (pa_cons (pv 7) pa_nil)))))
pss_nil)
(pss_one (ps_expr (pe_bm PySem.F.plainAttrs_list PySem.F.slot_list_append PySem.F.type_list_append mt_append (pv 1) (pa_cons (pe_dget hu (pv 2) (pv 7) (fun _ _ => rfl)) pa_nil))))))))
(pss_one (ps_ret (pe_tup (pa_cons (pv 1) (pa_cons (pv 3) pa_nil))))))))), ?_⟩
    refine ⟨by show 2 ≤ sizeLine; decide, fun a ha => ?_⟩
    intro d hd
    refine ⟨by show 2 ≤ sizeLine; decide, fun b hb => ?_⟩
    have s0 : Same H (upd (upd (upd H a (.lst [.int 0, .int 1])) d (.dT [])) b (.lst [.non, .non])) := ((Same_new ha).newer hd).newer hb
    have ndb : d ≠ b := ne_of_none upd_same hb
    have nab : a ≠ b := ne_of_none (Same_new hd _ _ upd_same) hb
    have nad : a ≠ d := ne_of_none upd_same hd
    have hdH : H d = Option.none := (Same_new ha).free hd
    have hbH : H b = Option.none := ((Same_new ha).newer hd).free hb
    have a0 : (upd (upd (upd H a (.lst [.int 0, .int 1])) d (.dT [])) b (.lst [.non, .non])) a = some (.lst ((nI [0, 1]).map V.int)) := by rw [upd_ne nab, upd_ne nad, upd_same]; rfl
    have d0 : (upd (upd (upd H a (.lst [.int 0, .int 1])) d (.dT [])) b (.lst [.non, .non])) d = some (.dT []) := by rw [upd_ne ndb, upd_same]
    have b0 : KL (upd (upd (upd H a (.lst [.int 0, .int 1])) d (.dT [])) b (.lst [.non, .non])) b [] := ⟨[], upd_same, .nil⟩
    generalize (upd (upd (upd H a (.lst [.int 0, .int 1])) d (.dT [])) b (.lst [.non, .non])) = H0 at s0 a0 d0 b0
    refine ⟨_, rfl, l, rfl, ⟨us, SqL.of (s0 _ _ hl)⟩, for_list (K := K) (a := l) (xs := us) (fun i σ H1 => ∃ v4 v5 v6 v7 sm ks kvs, σ = [some (.ref l), some (.ref a), some (.ref d), some (.ref b), v4, v5, v6, v7] ∧ Same H H1 ∧ H1 a = some (.lst ((nI sm).map V.int)) ∧ H1 d = some (.dT kvs) ∧ KL H1 b ks ∧ MInv n rows i sm ks ∧ Known kvs ks)
      ⟨_, _, _, _, [0, 1], [], [], rfl, s0, a0, d0, b0, MInv.start, rfl, fun r v e => by rw [valV_nil] at e; cases e⟩ (fun i σ H1 _ ⟨_, _, _, _, _, _, _, _, z, _⟩ => SqL.of (z _ _ hl)) ?_ ?_⟩
    · rintro i y σ H1 hi ⟨v4, v5, v6, v7, sm, ks, kvs, rfl, s1, ha1, hd1, ⟨ws, hb1, hIb⟩, M, Kn1⟩
      have hir : i < rows.length := by have := (List.getElem?_eq_some_iff.mp hi).1; omega
      have er : rows[i]? = some rows[i] := List.getElem?_eq_getElem hir
      generalize rows[i] = r at er
      obtain ⟨ns, e3, t, rfl, ht⟩ := hI.get hi
      rw [List.getElem?_map, er] at e3
      cases e3
      obtain ⟨yo, yi, eo, ei, w1, w2, _, _, _, _, _, _, _⟩ := M.nums Vr er
      have hsl : sm.length ≤ 8203 := by rw [M.len]; omega
      have hksl := M.kl
      refine ⟨t, _, rfl, SqT.of (s1 _ _ ht), rfl, _, _, rfl, _, _, rfl, _, _, rfl, rfl, ?_⟩
      -- row = (tie, same[out], same[into])
      refine ⟨_, rfl, _, rfl, _, rfl, a, _, _, _, rfl, rfl, SqL.of ha1, at_nI eo, ?_⟩
      refine ⟨_, rfl, _, rfl, a, _, _, _, rfl, rfl, SqL.of ha1, at_nI ei, by show 3 ≤ sizeLine; decide, fun q hq => ?_⟩
      have naq : a ≠ q := ne_of_none ha1 hq
      have ndq : d ≠ q := ne_of_none hd1 hq
      have nbq : b ≠ q := ne_of_none hb1 hq
      have s2 : Same H (upd H1 q (.tup [.int r.1, .int yo, .int yi])) := s1.newer hq
      have hq2 : (upd H1 q (.tup [.int r.1, .int yo, .int yi])) q = some (.tup ((kI (r.1, yo, yi)).map V.int)) := upd_same
      have ha2 : (upd H1 q (.tup [.int r.1, .int yo, .int yi])) a = some (.lst ((nI sm).map V.int)) := by rw [upd_ne naq]; exact ha1
      have hd2 : (upd H1 q (.tup [.int r.1, .int yo, .int yi])) d = some (.dT kvs) := by rw [upd_ne ndq]; exact hd1
      have hb2 : (upd H1 q (.tup [.int r.1, .int yo, .int yi])) b = some (.lst (.non :: .non :: ws)) := by rw [upd_ne nbq]; exact hb1
      have hIb2 := hIb.kt (KT.new hq (o := .tup [.int r.1, .int yo, .int yi]))
      generalize (upd H1 q (.tup [.int r.1, .int yo, .int yi])) = H2 at s2 hq2 ha2 hd2 hb2 hIb2
      -- if row[2] == 0
      refine ⟨_, rfl, q, _, _, _, rfl, rfl, SqT.of hq2, atI_nat (j := 2) rfl, rfl, _, rfl, ?_⟩
      rw [dInt]
      have add : ∀ (H3 : Hp) (z : Nat), Same H H3 → H3 a = some (.lst ((nI sm).map V.int)) → Same H (upd H3 a (.lst ((nI sm).map V.int ++ [.int (z : Int)]))) ∧ (upd H3 a (.lst ((nI sm).map V.int ++ [.int (z : Int)]))) a = some (.lst ((nI (sm ++ [z])).map V.int)) := fun H3 z s3 e3 =>
        ⟨s3.mut ha, by rw [upd_same]; simp [nI]⟩
      refine iteB (fun hz => ?_) (fun hz => ?_)
      · have hz : yi = 0 := by have := of_decide_eq_true hz; simp at this; omega
        subst hz
        refine ⟨_, rfl, .inl ⟨rfl, _, SqL.of ha2⟩, _, rfl, q, _, _, _, rfl, rfl, SqT.of hq2, atI_nat (j := 1) rfl, a, _, _, rfl, rfl, ha2, szl (by rw [nI_len]; omega), ?_⟩
        obtain ⟨p1, p2⟩ := add H2 yo s2 ha2
        refine ⟨_, _, _, _, sm ++ [yo], ks, kvs, rfl, p1, p2, by rw [upd_ne nad.symm]; exact hd2, ⟨ws, by rw [upd_ne nab.symm]; exact hb2, hIb2.kt (KT.mut ha2 trivial)⟩, M.skip Vr er eo ei, Kn1⟩
      · -- if row not in known
        refine ⟨_, rfl, _, rfl, d, _, rfl, DGet.t (k := kk (r.1, yo, yi)) hd2 (by rw [kk_val]; exact hq2), _, rfl, ?_⟩
        have fin : ∀ (H3 : Hp) (ks3 : List Kn) (kvs3 : List (List Key × V)) (j : Nat), Same H H3 → H3 a = some (.lst ((nI sm).map V.int)) → H3 d = some (.dT kvs3) → H3 q = some (.tup ((kI (r.1, yo, yi)).map V.int)) → KL H3 b ks3 → MInv n rows (i + 1) (sm ++ [j + 2]) ks3 → Known kvs3 ks3 → valV kvs3 (kk (r.1, yo, yi)) = some (.int ((j + 2 : Nat) : Int)) →
            ∀ v4 v5 v6, tDrop (tBM K "list" rAppend (tVar 1) (tCons (tDGet (tVar 2) (tVar 7)) tNil)) { nx := fun σ H1 => ∃ v4 v5 v6 v7 sm ks kvs, σ = [some (.ref l), some (.ref a), some (.ref d), some (.ref b), v4, v5, v6, v7] ∧ Same H H1 ∧ H1 a = some (.lst ((nI sm).map V.int)) ∧ H1 d = some (.dT kvs) ∧ KL H1 b ks ∧ MInv n rows (i + 1) sm ks ∧ Known kvs ks, rt := fun _ _ => True }
              [some (.ref l), some (.ref a), some (.ref d), some (.ref b), v4, v5, v6, some (.ref q)] H3 := fun H3 ks3 kvs3 j s3 ha3 hd3 hq3 hb3 M3 K3 e3 v4 v5 v6 => by
          refine ⟨_, rfl, .inl ⟨rfl, _, SqL.of ha3⟩, _, rfl, _, rfl, d, .int ((j + 2 : Nat) : Int), rfl, ?_, a, _, _, rfl, rfl, ha3, szl (by rw [nI_len]; omega), ?_⟩
          · have := DGet.t (k := kk (r.1, yo, yi)) hd3 (by rw [kk_val]; exact hq3)
            rw [e3] at this
            exact this
          · obtain ⟨p1, p2⟩ := add H3 (j + 2) s3 ha3
            exact ⟨_, _, _, _, sm ++ [j + 2], ks3, kvs3, rfl, p1, p2, by rw [upd_ne nad.symm]; exact hd3, hb3.imp fun ws z => ⟨by rw [upd_ne nab.symm]; exact z.1, z.2.kt (KT.mut ha3 trivial)⟩, M3, K3⟩
        cases e : valV kvs (kk (r.1, yo, yi)) with
        | some v =>
          obtain ⟨j, rfl, hj⟩ := Kn1.2 _ _ e
          refine iteF ?_
          exact fin H2 ks kvs j s2 ha2 hd2 hq2 ⟨ws, hb2, hIb2⟩ (M.old Vr er eo ei hj) Kn1 e _ _ _
        | none =>
          refine iteT ?_
          have hwl : ws.length = ks.length := by rw [hIb.len, List.length_map]
          refine ⟨_, rfl, b, _, rfl, .inl (SqL.of hb2), _, rfl, _, rfl, d, _, rfl, DPut.t (k := kk (r.1, yo, yi)) hd2 (by rw [kk_val]; exact hq2) (szl (by rw [Kn1.1]; omega)), ?_⟩
          have el : (((V.non :: V.non :: ws).length : Nat) : Int) = ((ks.length + 2 : Nat) : Int) := by simp [hwl]; omega
          rw [el]
          have K3 := Kn1.new e
          have hb3 : (upd H2 d (.dT (putK kvs (kk (r.1, yo, yi)) (.int ((ks.length + 2 : Nat) : Int))))) b = some (.lst (.non :: .non :: ws)) := by rw [upd_ne ndb.symm]; exact hb2
          have hq3 : (upd H2 d (.dT (putK kvs (kk (r.1, yo, yi)) (.int ((ks.length + 2 : Nat) : Int))))) q = some (.tup ((kI (r.1, yo, yi)).map V.int)) := by rw [upd_ne ndq.symm]; exact hq2
          refine ⟨_, rfl, .inl ⟨rfl, _, SqL.of hb3⟩, _, rfl, b, _, _, rfl, rfl, hb3, szl (by simp; omega), ?_⟩
          have nt1 : KT H2 (upd H2 d (.dT (putK kvs (kk (r.1, yo, yi)) (.int ((ks.length + 2 : Nat) : Int))))) := KT.mut hd2 trivial
          refine fin _ (ks ++ [(r.1, yo, yi)]) (putK kvs (kk (r.1, yo, yi)) (.int ((ks.length + 2 : Nat) : Int))) ks.length ((s2.mut hdH).mut hbH) ?_ ?_ ?_ ⟨ws ++ [.ref q], upd_same, ?_⟩ (M.new Vr er eo ei) K3 ?_ _ _ _
          · rw [upd_ne nab, upd_ne nad]; exact ha2
          · rw [upd_ne ndb, upd_same]
          · rw [upd_ne nbq.symm]; exact hq3
          · rw [List.map_append]
            have nt2 := KT.mut (o := .lst ((.non :: .non :: ws) ++ [.ref q])) hb3 trivial
            exact ((hIb2.kt nt1).kt nt2).snoc ⟨q, rfl, nt2 _ _ hq3⟩
          · rw [valV_put, if_pos rfl]
    · rintro σ H1 ⟨v4, v5, v6, v7, sm, ks, kvs, rfl, s1, ha1, hd1, hb1, M, Kn1⟩
      rw [hul] at M
      refine ⟨_, rfl, _, rfl, by show 2 ≤ sizeLine; decide, fun q hq => ?_⟩
      obtain ⟨ws, hb2, hIb⟩ := hb1
      refine k q a b sm ks _ (s1.newer hq) upd_same (by rw [upd_ne (ne_of_none ha1 hq)]; exact ha1) ⟨ws, by rw [upd_ne (ne_of_none hb2 hq)]; exact hb2, hIb.kt (KT.new hq)⟩ M.val M.kl M.len fun x y e => ?_
      obtain ⟨p1, p2, _⟩ := M.at_ x y e
      exact ⟨p1, p2⟩
end Fw
end

section
set_option Elab.async false
set_option maxRecDepth 100000
set_option maxHeartbeats 4000000
set_option linter.all false
/-! D9: graphs reached, looked at. -/
namespace Fw
open PySem PySem.Spec PyProof.Rows L2
def Fk (F : List Nat) : List (Key × V) := F.map fun x : Nat => (Sum.inl (x : Int), V.bl true)
theorem Fk_val (F : List Nat) (x : Nat) : valV (Fk F) (Sum.inl (x : Int)) = if x ∈ F then some (.bl true) else Option.none := by
  induction F with
  | nil => rfl
  | cons y F ih =>
    show valV ((Sum.inl (y : Int), V.bl true) :: Fk F) _ = _
    by_cases h : y = x
    · subst h
      rw [valV_pos rfl]; simp
    · rw [valV_neg (fun z => h (by have := Sum.inl.inj z; omega)), ih]
      simp [Ne.symm h]
def lenAt (H : Hp) (a : Addr) : Nat := match H a with
  | some (.lst xs) => xs.length
  | some (.dK kvs) => kvs.length
  | _ => 0
theorem ok_knots_reached {P : Program} {w : World} {K : PySem.W.Frag} {mg : Str → Option Value} {base : Heap} {A : Ad} (T : Txt K mg A) : FnOk P w K mg base CX0 1 A.f_knots_reached A.d_knots_reached ["kept", "top"] (sp_knots_reached) := by
  refine T.F_knots_reached.ok sc_knots_reached (fun vs H Q E h => ?_) (fun cdv A' outer s H vs Q E hr h => ?_)
  · obtain ⟨l, n, t, ks, rfl, _⟩ := h
    rfl
  · obtain ⟨l, n, t, ks, rfl, ⟨us, hl, hI⟩, Vk, ht, hlen, k⟩ := h
    have hu := hu_of hr
    have hul : us.length = ks.length := by rw [hI.len, List.length_map]
    refine ⟨_, (pss_cons (ps_set (i := 2) sc_knots_reached.nd rfl (by first | exact Or.inl rfl | exact Or.inr rfl) pe_dnewK)
(pss_cons (ps_set (i := 3) sc_knots_reached.nd rfl (by first | exact Or.inl rfl | exact Or.inr rfl) (pe_lst (pa_cons (pv 1) pa_nil)))
(pss_cons (ps_while PassesOwn.never (pt_cmpR (ned (K := K) hr.units) (pv 3) (pe_lst pa_nil) (nomark _))
(pss_cons (ps_set (i := 4) sc_knots_reached.nd rfl (by first | exact Or.inl rfl | exact Or.inr rfl) (pe_bm0 PySem.F.plainAttrs_list PySem.F.slot_list_pop PySem.F.type_list_pop mt_pop (pv 3)))
(pss_one (ps_if (pw_and (pt_cmpR op_gt (pv 4) pe_int (nomark _)) (pw_and1 (pt_cmp (pc_dnotin hu (pv 4) (pv 2))))).pt
(pss_cons (ps_dput hu (pv 2) (pv 4) pe_bl rfl)
(pss_one (ps_expr (pe_bm PySem.F.plainAttrs_list PySem.F.slot_list_extend PySem.F.type_list_extend mt_extend (pv 3) (pa_cons (pe_lst (pa_cons (pe_ix (ixt (K := K)) (pe_ix (ixl (K := K)) (pv 0) (pv 4) (fun _ _ => rfl)) pe_int (fun _ _ => rfl)) (pa_cons (pe_ix (ixt (K := K)) (pe_ix (ixl (K := K)) (pv 0) (pv 4) (fun _ _ => rfl)) pe_int (fun _ _ => rfl)) pa_nil))) pa_nil)))))
pss_nil))))
(pss_one (ps_ret (pe_callTy (call_list_dK rfl) (by rfl) T.z_list (by decide +kernel) (pa_cons (pv 2) pa_nil))))))), ?_⟩
    intro f hf
    refine ⟨_, rfl, by show 1 ≤ sizeLine; decide, fun wt hwt => ?_⟩
    have s0 : Same H (upd (upd H f (.dK [])) wt (.lst [.int t])) := (Same_new hf).newer hwt
    have hwH : H wt = Option.none := (Same_new hf).free hwt
    have nfw : f ≠ wt := ne_of_none upd_same hwt
    refine while_by (fun σ H1 => ∃ (F W : List Nat) (v4 : Option V), σ = [some (.ref l), some (.int t), some (.ref f), some (.ref wt), v4] ∧ Same H H1 ∧ H1 f = some (.dK (Fk F)) ∧ H1 wt = some (.lst ((nI W).map V.int)) ∧ RInv ks t F W ∧ W.length ≤ F.length + 1) (fun _ H1 => 3 * (ks.length + 2 - lenAt H1 f) + lenAt H1 wt)
      ⟨[], [t], Option.none, rfl, s0, by rw [upd_ne nfw, upd_same]; rfl, by rw [upd_same]; rfl, RInv.start ht, Nat.le_refl _⟩ ?_ ?_
    · rintro σ H1 ⟨F, W, v4, rfl, s1, hf1, hw1, R, hWl⟩
      refine ⟨_, rfl, Nat.zero_le _, fun p hp => ?_⟩
      have s2 : Same H (upd H1 p (.lst [])) := s1.newer hp
      have hw2 : (upd H1 p (.lst [])) wt = some (.lst ((nI W).map V.int)) := by rw [upd_ne (ne_of_none hw1 hp)]; exact hw1
      have hf2 : (upd H1 p (.lst [])) f = some (.dK (Fk F)) := by rw [upd_ne (ne_of_none hf1 hp)]; exact hf1
      refine ⟨_, _, dpIL (SqL.of hw2), dpIL (ns := []) (SqL.of upd_same), shIL _, shIL [], _, rfl, ?_⟩
      rw [eqvIL]
      have mu1 : 3 * (ks.length + 2 - lenAt H1 f) + lenAt H1 wt = 3 * (ks.length + 2 - F.length) + W.length := by
        unfold lenAt; rw [hf1, hw1]; simp [Fk, nI]
      rw [mu1]
      generalize (upd H1 p (.lst [])) = H2 at s2 hw2 hf2
      refine iteB (fun hc => ?_) (fun hc => ?_)
      · have hne : W ≠ [] := by
          intro z; subst z; simp [nI] at hc
        obtain ⟨W', x, rfl⟩ : ∃ W' x, W = W' ++ [x] := ⟨W.dropLast, W.getLast hne, (List.dropLast_concat_getLast hne).symm⟩
        have hxl := R.wrng x (List.mem_append_right _ List.mem_cons_self)
        have ex : (nI (W' ++ [x])).map V.int = (nI W').map V.int ++ [V.int (x : Int)] := by simp [nI]
        rw [ex] at hw2
        refine ⟨_, rfl, .inl ⟨rfl, _, SqL.of hw2⟩, wt, _, .int (x : Int), rfl, rfl, hw2, (by rw [List.getElem?_append_right (by simp)]; simp), ?_⟩
        rw [List.dropLast_concat]
        have s3 : Same H (upd H2 wt (.lst ((nI W').map V.int))) := s2.mut hwH
        have hw3 : (upd H2 wt (.lst ((nI W').map V.int))) wt = some (.lst ((nI W').map V.int)) := upd_same
        have hf3 : (upd H2 wt (.lst ((nI W').map V.int))) f = some (.dK (Fk F)) := by rw [upd_ne nfw]; exact hf2
        generalize (upd H2 wt (.lst ((nI W').map V.int))) = H3 at s3 hw3 hf3
        have back : RInv ks t F W' → (∃ (F W : List Nat) (v4' : Option V), [some (V.ref l), some (.int t), some (.ref f), some (.ref wt), some (.int (x : Int))] = [some (.ref l), some (.int t), some (.ref f), some (.ref wt), v4'] ∧ Same H H3 ∧ H3 f = some (.dK (Fk F)) ∧ H3 wt = some (.lst ((nI W).map V.int)) ∧ RInv ks t F W ∧ W.length ≤ F.length + 1) ∧ 3 * (ks.length + 2 - lenAt H3 f) + lenAt H3 wt < 3 * (ks.length + 2 - F.length) + (W' ++ [x]).length := fun R' => by
          refine ⟨⟨F, W', _, rfl, s3, hf3, hw3, R', by rw [List.length_append] at hWl; omega⟩, ?_⟩
          unfold lenAt; rw [hf3, hw3]; simp [Fk, nI]
        refine ⟨_, rfl, _, _, rfl, rfl, _, rfl, iteB (fun hx => ?_) (fun hx => ?_)⟩
        · have h2 : 2 ≤ x := by have := of_decide_eq_true hx; omega
          refine ⟨_, rfl, _, rfl, f, _, rfl, DGet.k (k := Sum.inl (x : Int)) hf3, _, rfl, ?_⟩
          rw [Fk_val]
          by_cases hxF : x ∈ F
          · rw [if_pos hxF]
            exact iteF (back (R.drop (.inr hxF)))
          · rw [if_neg hxF]
            refine iteT ?_
            obtain ⟨r, er, w0, w1, w2, w3, w4, w5, w6⟩ := Vk.at hxl h2
            have R' := R.add Vk h2 hxF er
            have hsm := R'.small
            rw [List.length_append, List.length_singleton] at hsm
            refine ⟨_, rfl, _, rfl, f, _, rfl, DPut.k (k := Sum.inl (x : Int)) hf3 (szl (by simp [Fk]; omega)), ?_⟩
            have eF : putK (Fk F) (Sum.inl (x : Int)) (V.bl true) = Fk (F ++ [x]) := by
              rw [putK_new _ (by rw [Fk_val, if_neg hxF])]; simp [Fk]
            rw [eF]
            have s4 : Same H (upd H3 f (.dK (Fk (F ++ [x])))) := s3.mut hf
            have hf4 : (upd H3 f (.dK (Fk (F ++ [x])))) f = some (.dK (Fk (F ++ [x]))) := upd_same
            have hw4 : (upd H3 f (.dK (Fk (F ++ [x])))) wt = some (.lst ((nI W').map V.int)) := by rw [upd_ne nfw.symm]; exact hw3
            generalize (upd H3 f (.dK (Fk (F ++ [x])))) = H4 at s4 hf4 hw4
            have hl4 := s4 _ _ hl
            have erk : (ks.map kI)[x - 2]? = some (kI r) := by rw [List.getElem?_map, er]; rfl
            obtain ⟨y, hy, a, rfl, hya⟩ := (hI.kt s4.kt).at erk
            have hy2 : (V.non :: V.non :: us)[x]? = some (.ref a) := by
              obtain ⟨x', rfl⟩ : ∃ x', x = x' + 2 := ⟨x - 2, by omega⟩
              simpa using hy
            have one : ∀ (j : Nat) (v : Int), (kI r)[j]? = some v → ∀ (Q : VK), Q (.int v) H4 → tOp (rIxT K) (tOp (rIxL K) (tVar 0) (tVar 4)) (tC (.int (j : Int))) [some (V.ref l), some (.int t), some (.ref f), some (.ref wt), some (.int (x : Int))] H4 Q := fun j v e Q q =>
              ⟨_, rfl, _, rfl, l, _, _, _, rfl, rfl, SqL.of hl4, atI_nat hy2, a, _, _, _, rfl, rfl, SqT.of hya, atInts e, q⟩
            refine ⟨_, rfl, .inl ⟨rfl, _, SqL.of hw4⟩, ?_⟩
            refine one 1 (r.2.1 : Int) rfl _ ?_
            refine one 2 (r.2.2 : Int) rfl _ ?_
            refine ⟨by show 2 ≤ sizeLine; decide, fun q hq => ?_⟩
            have nwq : wt ≠ q := ne_of_none hw4 hq
            refine ⟨wt, q, _, _, rfl, rfl, by rw [upd_ne nwq]; exact hw4, upd_same, sz ?_, ?_⟩
            · rw [List.length_append, List.length_singleton] at hWl
              rw [nI_len]; simp; omega
            · refine ⟨⟨F ++ [x], W' ++ [r.2.1, r.2.2], _, rfl, (s4.newer hq).mut hwH, ?_, ?_, R', by rw [List.length_append, List.length_singleton] at hWl; simp; omega⟩, ?_⟩
              · rw [upd_ne nfw, upd_ne (ne_of_none hf4 hq)]; exact hf4
              · rw [upd_same]; simp [nI]
              · unfold lenAt
                rw [upd_same, upd_ne nfw, upd_ne (ne_of_none hf4 hq), hf4]
                simp [Fk, nI]
                omega
        · have h2 : x < 2 := by have := of_decide_eq_false hx; omega
          exact iteF (back (R.drop (.inl h2)))
      · have hz : W = [] := by
          cases W with
          | nil => rfl
          | cons y W => simp [nI] at hc
        subst hz
        refine ⟨_, rfl, f, _, rfl, hf2, fun q hq => ?_⟩
        have e1 : (Fk F).map (fun kv => kV kv.1) = (nI F).map V.int := by simp [Fk, nI, kV]
        rw [e1]
        refine k q F _ (s2.newer hq) (s2.free hq) upd_same R.nd R.rng (fun h2 => ?_) fun x hx r hr => ?_
        · rcases R.top h2 with z | z
          · exact z
          · cases z
        · obtain ⟨c1, c2⟩ := R.cl x hx r hr
          refine ⟨fun h2 => ?_, fun h2 => ?_⟩
          · rcases c1 h2 with z | z
            · exact z
            · cases z
          · rcases c2 h2 with z | z
            · exact z
            · cases z
    · rintro σ H1 Q1 Q2 hq ⟨v, e, hz, g⟩
      refine ⟨v, e, hz, fun p hp => ?_⟩
      obtain ⟨d1, d2, a1, a2, a3, a4, c, a5, a6⟩ := g p hp
      exact ⟨d1, d2, a1, a2, a3, a4, c, a5, hq _ _ a6⟩
theorem ok_look_rows {P : Program} {w : World} {K : PySem.W.Frag} {mg : Str → Option Value} {base : Heap} {A : Ad} (T : Txt K mg A) : FnOk P w K mg base CX0 1 A.f_look_rows A.d_look_rows ["n", "rows", "top"] (sp_look_rows) := by
  refine T.F_look_rows.ok sc_look_rows (fun vs H Q E h => ?_) (fun cdv A' outer s H vs Q E hr h => ?_)
  · obtain ⟨l, n, t, rows, rfl, _⟩ := h
    rfl
  · obtain ⟨l, n, t, rows, rfl, ⟨us, hl, hI⟩, Vr, ht, hlen, k⟩ := h
    have hul : us.length = rows.length := by rw [hI.len, List.length_map]
    refine ⟨_, (pss_cons (ps_for PassesOwn.never rfl (pien (K := K) (by rfl) T.z_enumerate (pa_cons (pv 1) pa_nil)) (pgt (K := K) (n := 2) rfl (pgs_cons (pg_name (i := 3) sc_look_rows.nd rfl (by first | exact Or.inl rfl | exact Or.inr rfl)) (pgs_cons (pg_name (i := 4) sc_look_rows.nd rfl (by first | exact Or.inl rfl | exact Or.inr rfl)) pgs_nil)))
(pss_cons (ps_asg (pv 4) (pgt (K := K) (n := 3) rfl (pgs_cons (pg_name (i := 5) sc_look_rows.nd rfl (by first | exact Or.inl rfl | exact Or.inr rfl)) (pgs_cons (pg_name (i := 6) sc_look_rows.nd rfl (by first | exact Or.inl rfl | exact Or.inr rfl)) (pgs_cons (pg_name (i := 7) sc_look_rows.nd rfl (by first | exact Or.inl rfl | exact Or.inr rfl)) pgs_nil)))))
(pss_cons (ps_if (pw_or (pt_cmpR op_lt (pv 5) pe_int (nomark _)) (pw_or1 (pt_cmpR op_ge (pv 5) (pv 0) (nomark _)))).pt
(pss_one ps_never)
pss_nil)
(pss_one (ps_for PassesOwn.never rfl (pit (K := K) (pe_tup (pa_cons (pv 6) (pa_cons (pv 7) pa_nil)))) (pg_name (i := 8) sc_look_rows.nd rfl (by first | exact Or.inl rfl | exact Or.inr rfl))
(pss_cons (ps_if (pw_or (pt_cmpR op_lt (pv 8) pe_int (nomark _)) (pw_or1 (pt_cmpR op_ge (pv 8) (pe_op op_add (pv 3) pe_int) (nomark _)))).pt
(pss_one ps_never)
pss_nil)
(pss_one (ps_if (pw_and (pt_cmpR op_gt (pv 8) pe_int (nomark _)) (pw_and1 (pt_cmpR op_le (pe_ix (ixt (K := K)) (pe_ix (ixl (K := K)) (pv 1) (pe_op op_sub (pv 8) pe_int) (fun _ _ => rfl)) pe_int (fun _ _ => rfl)) (pv 5) (nomark _)))).pt
(pss_one ps_never)
pss_nil))))))))
(pss_one (ps_if (pw_or (pt_cmpR op_lt (pv 2) pe_int (nomark _)) (pw_or1 (pt_cmpR op_ge (pv 2) (pe_op op_add (pe_callB (lens (K := K)) (by rfl) T.z_len (by decide +kernel) (pa_cons (pv 1) pa_nil)) pe_int) (nomark _)))).pt
(pss_one ps_never)
pss_nil))), ?_⟩
    refine ⟨_, rfl, l, us, rfl, SqL.of hl, ?_⟩
    refine for_it (walk_enum (K := K) (a := l) (xs := us)) (fun i σ H1 => ∃ v3 v4 v5 v6 v7 v8, σ = [some (.int n), some (.ref l), some (.int t), v3, v4, v5, v6, v7, v8] ∧ Same H H1)
      ⟨_, _, _, _, _, _, rfl, Same.refl H⟩ (fun i σ H1 _ ⟨_, _, _, _, _, _, _, z⟩ => SqL.of (z _ _ hl)) ?_ ?_
    · rintro i y σ H1 H2 hi ⟨v3, v4, v5, v6, v7, v8, rfl, s1⟩ ⟨q, y1, y2, rfl, hq, rfl, e1, e2⟩
      cases e1
      have hir : i < rows.length := by omega
      have er : rows[i]? = some rows[i] := List.getElem?_eq_getElem hir
      generalize rows[i] = r at er
      obtain ⟨ns, e3, a, rfl, ha⟩ := hI.get e2
      rw [List.getElem?_map, er] at e3
      cases e3
      obtain ⟨w0, w1, w2, w3, w4⟩ := Vr i r er
      refine ⟨q, _, rfl, SqT.of upd_same, rfl, _, _, rfl, _, _, rfl, rfl, ?_⟩
      have s2 : Same H (upd H1 q (.tup [.int i, .ref a])) := s1.newer hq
      generalize (upd H1 q (.tup [.int i, .ref a])) = H2 at s2
      refine ⟨_, rfl, a, _, rfl, SqT.of (s2 _ _ ha), rfl, _, _, rfl, _, _, rfl, _, _, rfl, rfl, ?_⟩
      refine ⟨_, rfl, _, _, rfl, rfl, _, rfl, iteN (decide_eq_false (by simp)) ?_⟩
      refine ⟨_, rfl, _, rfl, _, _, rfl, rfl, _, rfl, iteN (decide_eq_false (by simp; omega)) ?_⟩
      refine ⟨_, rfl, _, rfl, by show 2 ≤ sizeLine; decide, fun b hb => ?_⟩
      have s3 : Same H (upd H2 b (.tup [.int r.2.1, .int r.2.2])) := s2.newer hb
      have hb3 : (upd H2 b (.tup [.int r.2.1, .int r.2.2])) b = some (.tup [.int r.2.1, .int r.2.2]) := upd_same
      generalize (upd H2 b (.tup [.int r.2.1, .int r.2.2])) = H3 at s3 hb3
      refine ⟨b, rfl, ⟨_, SqT.of hb3⟩, for_tup (K := K) (a := b) (xs := [.int r.2.1, .int r.2.2]) (fun j σ H4 => ∃ v8, σ = [some (.int n), some (.ref l), some (.int t), some (.int i), some (.ref a), some (.int r.1), some (.int r.2.1), some (.int r.2.2), v8] ∧ H4 = H3)
        ⟨_, rfl, rfl⟩ (fun j σ H4 _ ⟨_, _, z⟩ => by rw [z]; exact SqT.of hb3) ?_ ?_⟩
      · rintro j y σ H4 hj ⟨v8, rfl, rfl⟩
        obtain ⟨x, rfl, hx1, hx2⟩ : ∃ x : Nat, y = .int (x : Int) ∧ x < i + 2 ∧ r.1 < tieAt n rows x := by
          match j, hj with
          | 0, hj => exact ⟨r.2.1, (Option.some.inj hj).symm, w1, w3⟩
          | 1, hj => exact ⟨r.2.2, (Option.some.inj hj).symm, w2, w4⟩
        refine ⟨_, rfl, _, _, rfl, rfl, _, rfl, iteN (decide_eq_false (by omega)) ?_⟩
        refine ⟨_, rfl, _, rfl, _, _, rfl, rfl, _, _, rfl, rfl, _, rfl, iteN (decide_eq_false (by omega)) ?_⟩
        refine ⟨_, rfl, _, _, rfl, rfl, _, rfl, iteB (fun hc => ?_) (fun hc => ?_)⟩
        · have h2 : 2 ≤ x := by have := of_decide_eq_true hc; omega
          obtain ⟨r2, er2, z0, z1, z2, z3, z4, z5, z6⟩ := Vr.at (x := x) (by omega) h2
          have erk : (rows.map kI)[x - 2]? = some (kI r2) := by rw [List.getElem?_map, er2]; rfl
          obtain ⟨y, hy, c, rfl, hc2⟩ := hI.at erk
          have ix : ((x : Int) - 2) = ((x - 2 : Nat) : Int) := by omega
          refine ⟨_, rfl, _, rfl, _, _, rfl, rfl, l, us, _, _, rfl, rfl, SqL.of (s3 _ _ hl), (by rw [ix]; exact atI_nat hy), c, _, _, _, rfl, rfl, SqT.of (s3 _ _ hc2), atI_nat (j := 0) rfl, _, rfl, _, _, rfl, rfl, _, rfl, iteN (decide_eq_false ?_) ⟨_, rfl, rfl⟩⟩
          rw [z5] at hx2
          show ¬ ((r2.1 : Int) ≤ (r.1 : Int))
          omega
        · exact iteF ⟨_, rfl, rfl⟩
      · rintro σ H4 ⟨v8, rfl, rfl⟩
        exact ⟨_, _, _, _, _, _, rfl, s3⟩
    · rintro σ H1 ⟨v3, v4, v5, v6, v7, v8, rfl, s1⟩
      refine ⟨_, rfl, _, _, rfl, rfl, _, rfl, iteN (decide_eq_false (by omega)) ?_⟩
      refine ⟨_, rfl, _, rfl, l, us, rfl, .inl (SqL.of (s1 _ _ hl)), _, _, rfl, rfl, _, _, rfl, rfl, _, rfl, iteN (decide_eq_false (by omega)) ?_⟩
      exact k H1 s1
end Fw
end

section
set_option Elab.async false
set_option maxRecDepth 100000
set_option maxHeartbeats 4000000
set_option linter.all false
/-! D10: graphs numbered. -/
namespace Fw
open PySem PySem.Spec PyProof.Rows L2
theorem kept_get {K : PySem.W.Frag} {σ : L2.St} {H : Hp} {l : Addr} {ks : List Kn} {x : Nat} {r : Kn} (h1 : σ[1]? = some (some (.ref l))) (h4 : σ[4]? = some (some (.int (x : Int)))) (hk : KL H l ks) (h2 : 2 ≤ x) (er : ks[x - 2]? = some r) {j : Nat} {v : Int}
    (e : (kI r)[j]? = some v) {Q : VK} (q : Q (.int v) H) : tOp (rIxT K) (tOp (rIxL K) (tVar 1) (tVar 4)) (tC (.int (j : Int))) σ H Q := by
  obtain ⟨us, hl, hI⟩ := hk
  have erk : (ks.map kI)[x - 2]? = some (kI r) := by rw [List.getElem?_map, er]; rfl
  obtain ⟨y, hy, a, rfl, hya⟩ := hI.at erk
  have hy2 : (V.non :: V.non :: us)[x]? = some (.ref a) := by
    obtain ⟨x', rfl⟩ : ∃ x', x = x' + 2 := ⟨x - 2, by omega⟩
    simpa using hy
  exact ⟨_, h1, _, h4, l, _, _, _, rfl, rfl, SqL.of hl, atI_nat hy2, a, _, _, _, rfl, rfl, SqT.of hya, atInts e, q⟩
theorem KL.same {H H' : Hp} {l : Addr} {ks : List Kn} (h : KL H l ks) (s : Same H H') : KL H' l ks := let ⟨us, a, b⟩ := h; ⟨us, s _ _ a, b.kt s.kt⟩
theorem ITs.perm {H : Hp} {vs us : List V} (p : us.Perm vs) : ∀ {L : List (List Int)}, ITs H vs L → ∃ M, M.Perm L ∧ ITs H us M := by
  induction p with
  | nil => intro L h; cases h; exact ⟨[], List.Perm.refl _, .nil⟩
  | cons x p ih =>
    intro L h
    cases h with
    | cons a t =>
      obtain ⟨M, m1, m2⟩ := ih t
      exact ⟨_ :: M, m1.cons _, .cons a m2⟩
  | swap x y l =>
    intro L h
    cases h with
    | cons a t =>
      cases t with
      | cons b u => exact ⟨_, List.Perm.swap .., .cons b (.cons a u)⟩
  | trans p q ih1 ih2 =>
    intro L h
    obtain ⟨M, m1, m2⟩ := ih2 h
    obtain ⟨M', n1, n2⟩ := ih1 m2
    exact ⟨M', n1.trans m1, n2⟩
/-- the knots in their ties' lists -/
def ByT (n : Nat) (ks : List Kn) (H0 H : Hp) (D : Addr) (bs : List Addr) (L : List Nat) : Prop :=
  H D = some (.lst (bs.map V.ref)) ∧ bs.length = n ∧ bs.Nodup ∧ D ∉ bs ∧ ∀ t b, bs[t]? = some b → H0 b = Option.none ∧ H b = some (.lst ((nI (L.filter fun x => tieAt n ks x == t)).map V.int))
theorem ByT.keep {n : Nat} {ks : List Kn} {H0 H H' : Hp} {D : Addr} {bs : List Addr} {L : List Nat} (h : ByT n ks H0 H D bs L) (e : H' D = H D) (f : ∀ b ∈ bs, H' b = H b) : ByT n ks H0 H' D bs L :=
  ⟨e.trans h.1, h.2.1, h.2.2.1, h.2.2.2.1, fun t b hb => ⟨(h.2.2.2.2 t b hb).1, (f b (List.mem_of_getElem? hb)).trans (h.2.2.2.2 t b hb).2⟩⟩
theorem ByT.same {n : Nat} {ks : List Kn} {H0 H H' : Hp} {D : Addr} {bs : List Addr} {L : List Nat} (h : ByT n ks H0 H D bs L) (s : Same H H') : ByT n ks H0 H' D bs L :=
  ⟨s _ _ h.1, h.2.1, h.2.2.1, h.2.2.2.1, fun t b hb => ⟨(h.2.2.2.2 t b hb).1, s _ _ (h.2.2.2.2 t b hb).2⟩⟩
def NumD (n : Nat) (ks : List Kn) (kvs : List (Key × V)) (R : List Kn) (x : Nat) : Prop := ∃ y : Nat, valV kvs (Sum.inl (x : Int)) = some (.int (y : Int)) ∧ NumOk n ks R x y
theorem NumD.put {n : Nat} {ks : List Kn} {kvs : List (Key × V)} {R more : List Kn} {z w : Nat} (hz : NumOk n ks (R ++ more) z w) {x : Nat} (h : NumD n ks kvs R x) : NumD n ks (putK kvs (Sum.inl (z : Int)) (.int (w : Int))) (R ++ more) x := by
  obtain ⟨y, e, o⟩ := h
  by_cases q : x = z
  · subst q
    exact ⟨w, by rw [valV_put, if_pos rfl], hz⟩
  · exact ⟨y, by rw [valV_put, if_neg (fun u => q (by have := Sum.inl.inj u; omega))]; exact e, o.pre⟩
theorem ok_numbered_sieve {P : Program} {w : World} {K : PySem.W.Frag} {mg : Str → Option Value} {base : Heap} {A : Ad} (T : Txt K mg A) : FnOk P w K mg base CX0 3 A.f_numbered_sieve A.d_numbered_sieve ["n", "kept", "top"] (sp_numbered_sieve A) := by
  have G_knots_reached : FnOk P w K mg base CX0 1 A.f_knots_reached A.d_knots_reached ["kept", "top"] (sp_knots_reached) := ok_knots_reached T
  have G_Sieve_init : FnOk P w K mg base CX0 1 A.f_Sieve_init A.d_Sieve_init ["self", "wide", "rows", "start"] (sp_Sieve_init A) := ok_Sieve_init T
  refine T.F_numbered_sieve.ok sc_numbered_sieve (fun vs H Q E h => ?_) (fun cdv A' outer s H vs Q E hr h => ?_)
  · obtain ⟨l, n, t, ks, rfl, _⟩ := h
    rfl
  · obtain ⟨l, n, t, ks, rfl, hk, Vk, hn, ht, hlen, k⟩ := h
    have hu := hu_of hr
    refine ⟨_, (pss_cons (ps_setLc (i := 3) (own := [("tie", 11)]) rfl sc_numbered_sieve.nd rfl rfl (sw_true rfl rfl rfl (by decide +kernel)) (pi_range1 (by rfl) T.z_range (pa_cons (pv 0) pa_nil)) (blkOk_by (N := ["n", "kept", "top", "by_tie", "knot", "new", "rows", "some", "here", "out", "into", "tie"]) (sc := defScope s_numbered_sieve) (by decide +kernel)) (fun _ _ _ _ _ => (pg_name (i := 11) sc_numbered_sieve.nd rfl (by first | exact Or.inl rfl | exact Or.inr rfl))) (fun _ _ _ _ _ => pts_nil) (fun _ _ _ _ _ => (pe_lst pa_nil)))
(pss_cons (ps_for PassesOwn.never rfl (pil (K := K) (pe_call G_knots_reached (hr.mono (by decide)) (by rfl) T.g_knots_reached T.F_knots_reached.kp T.b_knots_reached .nil pass0 (pa_cons (pv 1) (pa_cons (pv 2) pa_nil)))) (pg_name (i := 4) sc_numbered_sieve.nd rfl (by first | exact Or.inl rfl | exact Or.inr rfl))
(pss_one (ps_expr (pe_bm PySem.F.plainAttrs_list PySem.F.slot_list_append PySem.F.type_list_append mt_append (pe_ix (ixl (K := K)) (pv 3) (pe_ix (ixt (K := K)) (pe_ix (ixl (K := K)) (pv 1) (pv 4) (fun _ _ => rfl)) pe_int (fun _ _ => rfl)) (fun _ _ => rfl)) (pa_cons (pv 4) pa_nil)))))
(pss_cons (ps_set (i := 5) sc_numbered_sieve.nd rfl (by first | exact Or.inl rfl | exact Or.inr rfl) (pe_disp (pps_cons pe_int pe_int (pps_cons pe_int pe_int pps_nil)) (by rfl) (by rfl) (fun z => by cases z) (by decide)))
(pss_cons (ps_set (i := 6) sc_numbered_sieve.nd rfl (by first | exact Or.inl rfl | exact Or.inr rfl) (pe_lst pa_nil))
(pss_cons (ps_for PassesOwn.never rfl (pirv (K := K) (by rfl) T.z_reversed (pa_cons (pv 3) pa_nil)) (pg_name (i := 7) sc_numbered_sieve.nd rfl (by first | exact Or.inl rfl | exact Or.inr rfl))
(pss_cons (ps_set (i := 8) sc_numbered_sieve.nd rfl (by first | exact Or.inl rfl | exact Or.inr rfl) (pe_callB cr_sorted3 (by rfl) T.z_sorted (by decide +kernel) (pa_cons (pe_lc (own := [("knot", 4)]) rfl sc_numbered_sieve.nd (pil (K := K) (pv 7)) (blkOk_by (N := ["n", "kept", "top", "by_tie", "knot", "new", "rows", "some", "here", "out", "into", "tie"]) (sc := defScope s_numbered_sieve) (by decide +kernel)) (fun _ _ _ _ _ => (pg_name (i := 4) sc_numbered_sieve.nd rfl (by first | exact Or.inl rfl | exact Or.inr rfl))) (fun _ _ _ _ _ => pts_nil) (fun _ _ _ _ _ => (pe_tup (pa_cons (pe_dget hu (pv 5) (pe_ix (ixt (K := K)) (pe_ix (ixl (K := K)) (pv 1) (pv 4) (fun _ _ => rfl)) pe_int (fun _ _ => rfl)) (fun _ _ => rfl)) (pa_cons (pe_dget hu (pv 5) (pe_ix (ixt (K := K)) (pe_ix (ixl (K := K)) (pv 1) (pv 4) (fun _ _ => rfl)) pe_int (fun _ _ => rfl)) (fun _ _ => rfl)) (pa_cons (pv 4) pa_nil)))))) pa_nil)))
(pss_one (ps_for PassesOwn.never rfl (pil (K := K) (pv 8)) (pgt (K := K) (n := 3) rfl (pgs_cons (pg_name (i := 9) sc_numbered_sieve.nd rfl (by first | exact Or.inl rfl | exact Or.inr rfl)) (pgs_cons (pg_name (i := 10) sc_numbered_sieve.nd rfl (by first | exact Or.inl rfl | exact Or.inr rfl)) (pgs_cons (pg_name (i := 4) sc_numbered_sieve.nd rfl (by first | exact Or.inl rfl | exact Or.inr rfl)) pgs_nil))))
(pss_cons (ps_dput hu (pv 5) (pv 4) (pe_op op_add pe_int (pe_callB (lens (K := K)) (by rfl) T.z_len (by decide +kernel) (pa_cons (pv 6) pa_nil))) rfl)
(pss_one (ps_expr (pe_bm PySem.F.plainAttrs_list PySem.F.slot_list_append PySem.F.type_list_append mt_append (pv 6) (pa_cons (pe_tup (pa_cons (pe_ix (ixt (K := K)) (pe_ix (ixl (K := K)) (pv 1) (pv 4) (fun _ _ => rfl)) pe_int (fun _ _ => rfl)) (pa_cons (pv 9) (pa_cons (pv 10) pa_nil)))) pa_nil)))))))))
(pss_one (ps_ret (pe_make T.mk_Sieve G_Sieve_init (hr.mono (by decide)) (by rfl) T.g_Sieve T.b_Sieve_init .nil pass0 (pa_cons (pv 0) (pa_cons (pv 6) (pa_cons (pe_dget hu (pv 5) (pv 2) (fun _ _ => rfl)) pa_nil))))))))))), ?_⟩
    -- by_tie = [[] for tie in range(n)]
    refine ⟨_, rfl, n, rfl, by omega, by omega, fun D hD => ?_⟩
    rw [Int.toNat_natCast]
    refine lc_range (lo := 0) (n := n) (fun i H1 => Same H H1 ∧ ∃ bs : List Addr, H1 D = some (.lst (bs.map V.ref)) ∧ bs.length = i ∧ bs.Nodup ∧ D ∉ bs ∧ ∀ b ∈ bs, H b = Option.none ∧ H1 b = some (.lst []))
      ⟨Same_new hD, [], upd_same, rfl, List.nodup_nil, by simp, fun b hb => nomatch hb⟩ ?_ ?_
    · rintro i H1 hi ⟨s1, bs, hD1, hbl, hnd, hDb, hbs⟩
      refine ⟨rfl, yesIf ?_⟩
      refine ⟨Nat.zero_le _, fun b hb => ?_⟩
      have nDb : D ≠ b := ne_of_none hD1 hb
      have nbb : b ∉ bs := fun z => by have := (hbs b z).2; rw [hb] at this; cases this
      refine ⟨_, by rw [upd_ne nDb]; exact hD1, szl (by simp [hbl]; omega), (s1.newer hb).mut hD, bs ++ [b], by rw [upd_same]; simp, by simp [hbl], ?_, ?_, fun c hc => ?_⟩
      · rw [List.nodup_append]
        exact ⟨hnd, by simp, by intro x hx y hy; rw [List.mem_singleton.mp hy]; exact fun z => nbb (z ▸ hx)⟩
      · intro z
        rcases mem_last z with z | z
        · exact hDb z
        · exact nDb z
      · rcases mem_last hc with z | z
        · have ncD : c ≠ D := fun q => hDb (q ▸ z)
          refine ⟨(hbs c z).1, ?_⟩
          rw [upd_ne ncD, upd_ne (show c ≠ b from fun q => nbb (q ▸ z))]
          exact (hbs c z).2
        · subst z
          exact ⟨s1.free hb, by rw [upd_ne nDb.symm, upd_same]⟩
    rintro H1 ⟨s1, bs, hD1, hbl, hnd, hDb, hbs⟩
    have B1 : ByT n ks H H1 D bs [] := ⟨hD1, hbl, hnd, hDb, fun t b hb => by
      have := hbs b (List.mem_of_getElem? hb)
      exact ⟨this.1, this.2⟩⟩
    -- for knot in knots_reached(kept, top)
    refine ⟨_, rfl, _, rfl, l, n, t, ks, rfl, hk.same s1, Vk, ht, hlen, fun q L H2 s2 hq0 hq hLnd hLr hLt hLc => ?_⟩
    have s12 := s1.trans s2
    have hLlen : L.length ≤ ks.length + 2 := by
      have := nd_le (l := L) (m := List.range (ks.length + 2)) hLnd fun x hx => List.mem_range.mpr (hLr x hx).2
      simpa using this
    have B2 := B1.same s2
    have hqb : ∀ b ∈ bs, b ≠ q := fun b hb z => by
      have := (hbs b hb).2
      rw [z, hq0] at this; cases this
    have hqD : D ≠ q := ne_of_none hD1 hq0
    refine ⟨q, rfl, ⟨_, SqL.of hq⟩, for_list (K := K) (a := q) (xs := (nI L).map V.int) (fun i σ H3 => ∃ v4 v5 v6 v7 v8 v9 v10 v11, σ = [some (.int n), some (.ref l), some (.int t), some (.ref D), v4, v5, v6, v7, v8, v9, v10, v11] ∧ Same H H3 ∧ H3 q = some (.lst ((nI L).map V.int)) ∧ ByT n ks H H3 D bs (L.take i))
      ⟨_, _, _, _, _, _, _, _, rfl, s12, hq, B2⟩ (fun i σ H3 _ ⟨_, _, _, _, _, _, _, _, _, _, z, _⟩ => SqL.of z) ?_ ?_⟩
    · rintro i y σ H3 hi ⟨v4, v5, v6, v7, v8, v9, v10, v11, rfl, s3, hq3, B3⟩
      obtain ⟨x, hx, rfl⟩ := nI_at hi
      have hxL := List.mem_of_getElem? hx
      obtain ⟨hx2, hxl⟩ := hLr x hxL
      obtain ⟨r, er, w0, w1, w2, w3, w4, w5, w6⟩ := Vk.at hxl hx2
      have eb : bs[r.1]? = some (bs[r.1]'(by omega)) := List.getElem?_eq_getElem _
      generalize bs[r.1]'(by omega) = b at eb
      have hbm := List.mem_of_getElem? eb
      obtain ⟨b0, b1⟩ := B3.2.2.2.2 _ _ eb
      have hbat : (bs.map V.ref)[r.1]? = some (.ref b) := by rw [List.getElem?_map, eb]; rfl
      refine ⟨_, rfl, ?_⟩
      refine kept_get (l := l) (ks := ks) (x := x) (r := r) rfl rfl (hk.same s3) hx2 er (j := 0) rfl ?_
      refine ⟨D, _, _, _, rfl, rfl, SqL.of B3.1, atI_nat hbat, .inl ⟨rfl, _, SqL.of b1⟩, _, rfl, b, _, _, rfl, rfl, b1, szl ?_, ?_⟩
      · rw [nI_len]
        have := List.length_filter_le (fun x => tieAt n ks x == r.1) (L.take i)
        rw [List.length_take] at this; omega
      · refine ⟨_, _, _, _, _, _, _, _, rfl, s3.mut b0, by rw [upd_ne (hqb b hbm).symm]; exact hq3, ?_, B3.2.1, B3.2.2.1, B3.2.2.2.1, fun t' b' hb' => ?_⟩
        · rw [upd_ne (show D ≠ b from fun z => B3.2.2.2.1 (z ▸ hbm))]; exact B3.1
        · obtain ⟨c0, c1⟩ := B3.2.2.2.2 t' b' hb'
          refine ⟨c0, ?_⟩
          rw [take_snoc hx, List.filter_append]
          by_cases e : t' = r.1
          · subst e
            rw [eb] at hb'
            cases hb'
            rw [upd_same, List.filter_cons_of_pos (by rw [w5]; simp)]
            simp [nI]
          · have nb : b' ≠ b := fun z => by
              subst z
              have i1 := (List.getElem?_eq_some_iff.mp hb').1
              have := (List.getElem?_inj i1 B3.2.2.1).mp (hb'.trans eb.symm)
              exact e this
            rw [upd_ne nb, c1, List.filter_cons_of_neg (by rw [w5]; simp; exact fun z => e z.symm)]
            simp
    rintro σ H3 ⟨v4, v5, v6, v7, v8, v9, v10, v11, rfl, s3, hq3, B3⟩
    rw [nI_len, List.take_length] at B3
    -- new = {0: 0, 1: 1}
    refine fun nd hnd0 => ⟨upd_same, [(Sum.inl 0, .int 0), (Sum.inl 1, .int 1)], rfl, by decide, ?_⟩
    rw [upd_upd]
    have emk : mergeK [] [(Sum.inl 0, V.int 0), (Sum.inl 1, V.int 1)] = [(Sum.inl 0, V.int 0), (Sum.inl 1, V.int 1)] := by decide +kernel
    rw [emk]
    refine ⟨Nat.zero_le _, fun rl hrl => ?_⟩
    have s4 : Same H3 (upd (upd H3 nd (.dK [(Sum.inl 0, .int 0), (Sum.inl 1, .int 1)])) rl (.lst [])) := (Same_new hnd0).newer hrl
    have hnd4 : (upd (upd H3 nd (.dK [(Sum.inl 0, .int 0), (Sum.inl 1, .int 1)])) rl (.lst [])) nd = some (.dK [(Sum.inl 0, .int 0), (Sum.inl 1, .int 1)]) := Same_new hrl _ _ upd_same
    have hrl4 : LL (upd (upd H3 nd (.dK [(Sum.inl 0, .int 0), (Sum.inl 1, .int 1)])) rl (.lst [])) rl [] := ⟨[], upd_same, .nil⟩
    have nnr : nd ≠ rl := ne_of_none upd_same hrl
    have hrl3 : H3 rl = Option.none := (Same_new hnd0).free hrl
    generalize (upd (upd H3 nd (.dK [(Sum.inl 0, .int 0), (Sum.inl 1, .int 1)])) rl (.lst [])) = H4 at s4 hnd4 hrl4
    have hndH := s3.free hnd0
    have hrlH := s3.free hrl3
    have hrevl : (bs.map V.ref).length = n := by rw [List.length_map, hbl]
    refine ⟨_, rfl, D, _, rfl, SqL.of (s4 _ _ B3.1), for_it (walk_rev (K := K) (a := D) (xs := bs.map V.ref)) (fun i σ H5 => ∃ v4 v7 v8 v9 v10 v11 R kvs, σ = [some (.int n), some (.ref l), some (.int t), some (.ref D), v4, some (.ref nd), some (.ref rl), v7, v8, v9, v10, v11] ∧ Same H3 H5 ∧ H5 nd = some (.dK kvs) ∧ LL H5 rl (R.map kI) ∧ Valid n R ∧ R.length ≤ i * L.length ∧ kvs.length ≤ R.length + 2 ∧ NumD n ks kvs R 0 ∧ NumD n ks kvs R 1 ∧ ∀ x ∈ L, n ≤ tieAt n ks x + i → NumD n ks kvs R x)
      ⟨_, _, _, _, _, _, [], [(Sum.inl 0, .int 0), (Sum.inl 1, .int 1)], rfl, s4, hnd4, hrl4, Valid.nil n, Nat.zero_le _, Nat.le_refl _, ?_, ?_, fun x hx hxt => ?_⟩ (fun i σ H5 _ ⟨_, _, _, _, _, _, _, _, _, z, _⟩ => SqL.of (z _ _ B3.1)) ?_ ?_⟩
    · exact ⟨0, rfl, by decide, by rw [setsAt_zero, setsAt_zero], rfl⟩
    · exact ⟨1, rfl, by decide, by rw [setsAt_one, setsAt_one], rfl⟩
    · obtain ⟨hx2, hxl⟩ := hLr x hx
      obtain ⟨r, er, w0, w1, w2, w3, w4, w5, w6⟩ := Vk.at hxl hx2
      omega
    · rintro i y σ H6 H5 hi ⟨v4, v7, v8, v9, v10, v11, R, kvs, rfl, s5, hnd5, hrl5, VR, hRl, hkl, N0, N1, NL⟩ ⟨rfl, hy⟩
      rw [hrevl] at hi hy
      have B5 := B3.same s5
      have s35 := s3.trans s5
      have eb : bs[n - 1 - i]? = some (bs[n - 1 - i]'(by omega)) := List.getElem?_eq_getElem _
      generalize bs[n - 1 - i]'(by omega) = b at eb
      rw [List.getElem?_map, eb] at hy
      cases hy
      obtain ⟨b0, b1⟩ := B5.2.2.2.2 _ _ eb
      generalize hti : n - 1 - i = ti at *
      generalize hLt : (L.filter fun x => tieAt n ks x == ti) = Lt at *
      have hLtm : ∀ x, x ∈ Lt ↔ x ∈ L ∧ tieAt n ks x = ti := fun x => by rw [← hLt, List.mem_filter]; simp
      have hLtl : Lt.length ≤ L.length := by rw [← hLt]; exact List.length_filter_le _ _
      have hi12 : i * L.length + L.length ≤ 12 * 8202 := by
        have h1 : (i + 1) * L.length ≤ 12 * 8202 := Nat.mul_le_mul (by omega) (by omega)
        rw [Nat.add_mul, Nat.one_mul] at h1
        exact h1
      -- a knot of this tie: its row, the numbers of what it leads to
      have child : ∀ x ∈ Lt, ∃ r, ks[x - 2]? = some r ∧ 2 ≤ x ∧ x < ks.length + 2 ∧ r.1 = ti ∧ (∃ yo, valV kvs (Sum.inl (r.2.1 : Int)) = some (.int (yo : Nat)) ∧ NumOk n ks R r.2.1 yo) ∧ ∃ yi, valV kvs (Sum.inl (r.2.2 : Int)) = some (.int (yi : Nat)) ∧ NumOk n ks R r.2.2 yi := fun x hx => by
        obtain ⟨hxL, hxt⟩ := (hLtm x).mp hx
        obtain ⟨hx2, hxl⟩ := hLr x hxL
        obtain ⟨r, er, w0, w1, w2, w3, w4, w5, w6⟩ := Vk.at hxl hx2
        have cn : ∀ c, c < x → ti < tieAt n ks c → (2 ≤ c → c ∈ L) → NumD n ks kvs R c := fun c hc ht hin => by
          by_cases h2 : 2 ≤ c
          · exact NL c (hin h2) (by omega)
          · have : c = 0 ∨ c = 1 := by omega
            rcases this with rfl | rfl
            · exact N0
            · exact N1
        obtain ⟨c1, c2⟩ := hLc x hxL r er
        have et : r.1 = ti := w5.symm.trans hxt
        exact ⟨r, er, hx2, hxl, et, cn r.2.1 w1 (by omega) c1, cn r.2.2 w2 (by omega) c2⟩
      -- here = sorted([..])
      refine ⟨_, rfl, b, rfl, ⟨_, SqL.of b1⟩, fun E0 hE0 => ?_⟩
      refine lc_list (K := K) (a := b) (xs := (nI Lt).map V.int) (fun j H6 => Same H5 H6 ∧ ∃ Ms : List Kn, LL H6 E0 (Ms.map kI) ∧ Ms.map (fun m => m.2.2) = Lt.take j ∧ ∀ m ∈ Ms, m.2.2 ∈ Lt ∧ ∃ r, ks[m.2.2 - 2]? = some r ∧ NumOk n ks R r.2.1 m.1 ∧ NumOk n ks R r.2.2 m.2.1)
        ⟨Same_new hE0, [], ⟨[], upd_same, .nil⟩, rfl, fun m hm => nomatch hm⟩ (fun j H6 _ z => SqL.of (z.1 _ _ b1)) ?_ ?_
      · rintro j y H6 hj ⟨s6, Ms, ⟨ws, hE6, hI6⟩, hMs, hMp⟩
        obtain ⟨x, hx, rfl⟩ := nI_at hj
        have hxm := List.mem_of_getElem? hx
        obtain ⟨r, er, hx2, hxl, et, ⟨yo, vo, no⟩, yi, vi, ni⟩ := child x hxm
        have s36 := s35.trans s6
        have hnd6 := s6 _ _ hnd5
        refine ⟨rfl, yesIf ?_⟩
        have dg : ∀ {c : Nat} {w : Nat}, valV kvs (Sum.inl (c : Int)) = some (.int (w : Int)) → DGet H6 nd (.int (c : Int)) (some (.int (w : Int))) := fun {c w} e => by
          have := DGet.k (k := Sum.inl (c : Int)) hnd6
          rw [e] at this
          exact this
        refine ⟨_, rfl, ?_⟩
        refine kept_get (l := l) (ks := ks) (x := x) (r := r) rfl rfl (hk.same s36) hx2 er (j := 1) rfl ?_
        refine ⟨nd, .int (yo : Int), rfl, dg vo, ?_⟩
        refine ⟨_, rfl, ?_⟩
        refine kept_get (l := l) (ks := ks) (x := x) (r := r) rfl rfl (hk.same s36) hx2 er (j := 2) rfl ?_
        refine ⟨nd, .int (yi : Int), rfl, dg vi, ?_⟩
        refine ⟨_, rfl, by show 3 ≤ sizeLine; decide, fun tp htp => ?_⟩
        have hE7 : (upd H6 tp (.tup [.int yo, .int yi, .int x])) E0 = some (.lst ws) := by rw [upd_ne (ne_of_none hE6 htp)]; exact hE6
        have hwl : ws.length ≤ 8202 := by
          have h1 := hI6.len
          have h2 := congrArg List.length hMs
          rw [List.length_map] at h1 h2
          rw [List.length_take] at h2
          omega
        refine ⟨ws, hE7, szl (by omega), (s6.newer htp).mut hE0, Ms ++ [(yo, yi, x)], ⟨ws ++ [.ref tp], upd_same, ?_⟩, ?_, fun m hm => ?_⟩
        · rw [List.map_append]
          have nt := KT.mut (o := .lst (ws ++ [.ref tp])) hE7 trivial
          exact (hI6.kt ((KT.new htp).trans nt)).snoc ⟨tp, rfl, nt _ _ upd_same⟩
        · rw [List.map_append, hMs, take_snoc hx]; rfl
        · rcases mem_last hm with z | z
          · exact hMp m z
          · subst z
            exact ⟨hxm, r, er, no, ni⟩
      rintro H6 ⟨s6, Ms, ⟨ws, hE6, hI6⟩, hMs, hMp⟩
      rw [nI_len, List.take_length] at hMs
      refine ⟨E0, ws, rfl, SqL.of hE6, fun v hv => ?_, fun ys S0 hperm hS0 => ?_⟩
      · obtain ⟨j, hj, ev⟩ := List.mem_iff_getElem.mp hv
        obtain ⟨ns, e1, a, e2, e3⟩ := hI6.get (i := j) (v := v) (by rw [List.getElem?_eq_getElem hj, ev])
        obtain ⟨m, _, rfl⟩ := List.mem_map.mp (List.mem_of_getElem? e1)
        exact ⟨a, _, _, _, e2, e3⟩
      obtain ⟨M', hM1, hM2⟩ := ITs.perm hperm hI6
      have s7 : Same H5 (upd H6 S0 (.lst ys)) := s6.newer hS0
      have hS7 : (upd H6 S0 (.lst ys)) S0 = some (.lst ys) := upd_same
      have hIs := hM2.kt (KT.new hS0 (o := .lst ys))
      have nS_nd : S0 ≠ nd := fun z => by have := s6 _ _ hnd5; rw [← z, hS0] at this; cases this
      have nS_rl : S0 ≠ rl := fun z => by
        obtain ⟨us, e, _⟩ := hrl5
        have := s6 _ _ e; rw [← z, hS0] at this; cases this
      have hM'l : M'.length ≤ L.length := by
        have h1 := hM1.length_eq
        have h2 := congrArg List.length hMs
        rw [List.length_map] at h1 h2
        omega
      have hyl : ys.length = M'.length := hM2.len
      have s37 := s5.trans s7
      have hnd7 := s7 _ _ hnd5
      have hrl7 := hrl5.same s7
      have hM'k : ∀ ns ∈ M', ∃ m ∈ Ms, ns = kI m := fun ns hns => by
        obtain ⟨m, hm, e⟩ := List.mem_map.mp (hM1.mem_iff.mp hns)
        exact ⟨m, hm, e.symm⟩
      generalize (upd H6 S0 (.lst ys)) = H7 at s7 hS7 hIs s37 hnd7 hrl7
      have kt7 := s37.kt
      -- for out, into, knot in here
      refine ⟨_, rfl, S0, rfl, ⟨ys, SqL.of hS7⟩, for_list (K := K) (a := S0) (xs := ys) (fun j σ H8 => ∃ v4 v9 v10 R' kvs', σ = [some (.int n), some (.ref l), some (.int t), some (.ref D), v4, some (.ref nd), some (.ref rl), some (.ref b), some (.ref S0), v9, v10, v11] ∧ Same H3 H8 ∧ H8 S0 = some (.lst ys) ∧ KT H7 H8 ∧ H8 nd = some (.dK kvs') ∧ LL H8 rl (R'.map kI) ∧ Valid n R' ∧ (∃ more, R' = R ++ more ∧ more.length = j) ∧ kvs'.length ≤ R'.length + 2 ∧ (∀ x, NumD n ks kvs R x → NumD n ks kvs' R' x) ∧ ∀ ns ∈ M'.take j, ∀ m ∈ Ms, ns = kI m → NumD n ks kvs' R' m.2.2)
        ⟨_, _, _, R, kvs, rfl, s37, hS7, KT.refl H7, hnd7, hrl7, VR, ⟨[], by simp, rfl⟩, hkl, fun x z => z, fun ns hns => by simp at hns⟩ (fun j σ H8 _ ⟨_, _, _, _, _, _, _, z, _⟩ => SqL.of z) ?_ ?_⟩
      · rintro j y σ H8 hj ⟨v4', v9', v10', R', kvs', rfl, s8, hS8, kt8, hnd8, ⟨us, hrl8, hI8⟩, VR', ⟨more, hmore, hml⟩, hkl', keep, NM⟩
        obtain ⟨ns, ens, a, rfl, ha⟩ := hIs.get hj
        obtain ⟨m, hm, rfl⟩ := hM'k ns (List.mem_of_getElem? ens)
        obtain ⟨hmL, r, er, no, ni⟩ := hMp m hm
        obtain ⟨r', er', hx2, hxl, et, _, _⟩ := child m.2.2 hmL
        rw [er] at er'
        cases er'
        have hjl : j < M'.length := (List.getElem?_eq_some_iff.mp ens).1
        have hRl' : R'.length ≤ 98424 := by rw [hmore, List.length_append]; omega
        have hul : us.length = R'.length := by rw [hI8.len, List.length_map]
        refine ⟨a, _, rfl, SqT.of (kt8 _ _ ha), rfl, _, _, rfl, _, _, rfl, _, _, rfl, rfl, ?_⟩
        -- new[knot] = 2 + len(rows)
        have elen : (2 : Int) + ((us.length : Nat) : Int) = ((R'.length + 2 : Nat) : Int) := by rw [hul]; omega
        refine ⟨_, rfl, rl, us, rfl, .inl (SqL.of hrl8), _, _, rfl, rfl, _, rfl, _, rfl, nd, upd H8 nd (.dK (putK kvs' (Sum.inl (m.2.2 : Int)) (.int ((R'.length + 2 : Nat) : Int)))), rfl, (by show DPut H8 nd (V.int (m.2.2 : Int)) (V.int (2 + ((us.length : Nat) : Int))) _; rw [elen]; exact DPut.k (k := Sum.inl (m.2.2 : Int)) hnd8 (szl (by omega))), ?_⟩
        have s9 : Same H3 (upd H8 nd (.dK (putK kvs' (Sum.inl (m.2.2 : Int)) (.int ((R'.length + 2 : Nat) : Int))))) := s8.mut hnd0
        have hnd9 : (upd H8 nd (.dK (putK kvs' (Sum.inl (m.2.2 : Int)) (.int ((R'.length + 2 : Nat) : Int))))) nd = some (.dK (putK kvs' (Sum.inl (m.2.2 : Int)) (.int ((R'.length + 2 : Nat) : Int)))) := upd_same
        have hS9 : (upd H8 nd (.dK (putK kvs' (Sum.inl (m.2.2 : Int)) (.int ((R'.length + 2 : Nat) : Int))))) S0 = some (.lst ys) := by rw [upd_ne nS_nd]; exact hS8
        have hrl9 : (upd H8 nd (.dK (putK kvs' (Sum.inl (m.2.2 : Int)) (.int ((R'.length + 2 : Nat) : Int))))) rl = some (.lst us) := by rw [upd_ne nnr.symm]; exact hrl8
        have kt9 : KT H8 (upd H8 nd (.dK (putK kvs' (Sum.inl (m.2.2 : Int)) (.int ((R'.length + 2 : Nat) : Int))))) := KT.mut hnd8 trivial
        generalize (upd H8 nd (.dK (putK kvs' (Sum.inl (m.2.2 : Int)) (.int ((R'.length + 2 : Nat) : Int))))) = H9 at s9 hnd9 hS9 hrl9 kt9
        -- rows.append((kept[knot][0], out, into))
        refine ⟨_, rfl, .inl ⟨rfl, _, SqL.of hrl9⟩, ?_⟩
        refine kept_get (l := l) (ks := ks) (x := m.2.2) (r := r) rfl rfl (hk.same (s3.trans s9)) hx2 er (j := 0) rfl ?_
        refine ⟨_, rfl, _, rfl, by show 3 ≤ sizeLine; decide, fun tq htq => ?_⟩
        have s10 := Same_new (o := .tup [.int r.1, .int m.1, .int m.2.1]) htq
        refine ⟨rl, us, _, rfl, rfl, s10 _ _ hrl9, szl (by omega), ?_⟩
        have nt := KT.mut (o := .lst (us ++ [.ref tq])) (s10 _ _ hrl9) trivial
        have no' : NumOk n ks R' r.2.1 m.1 := by rw [hmore]; exact no.pre
        have ni' : NumOk n ks R' r.2.2 m.2.1 := by rw [hmore]; exact ni.pre
        obtain ⟨VR2, hnew⟩ := NumOk.new Vk VR' hxl hx2 er no' ni'
        refine ⟨_, _, _, R' ++ [(r.1, m.1, m.2.1)], putK kvs' (Sum.inl (m.2.2 : Int)) (.int ((R'.length + 2 : Nat) : Int)), rfl, (s9.trans s10).mut hrl3, ?_, ((kt8.trans kt9).trans s10.kt).trans nt, ?_, ⟨us ++ [.ref tq], upd_same, ?_⟩, VR2, ⟨more ++ [(r.1, m.1, m.2.1)], by rw [hmore, List.append_assoc], by simp [hml]⟩, ?_, fun x hx => NumD.put hnew (keep x hx), fun ns hns m' hm' e => ?_⟩
        · rw [upd_ne nS_rl]; exact s10 _ _ hS9
        · rw [upd_ne nnr]; exact s10 _ _ hnd9
        · rw [List.map_append]
          exact (hI8.kt ((kt9.trans s10.kt).trans nt)).snoc ⟨tq, rfl, nt _ _ upd_same⟩
        · have := length_putK kvs' (Sum.inl (m.2.2 : Int)) (V.int ((R'.length + 2 : Nat) : Int))
          rw [List.length_append, List.length_singleton]; omega
        · rw [take_snoc ens] at hns
          rcases mem_last hns with z | z
          · exact NumD.put hnew (NM ns z m' hm' e)
          · rw [z] at e
            have := kI_inj e
            subst this
            exact ⟨R'.length + 2, by rw [valV_put, if_pos rfl], hnew⟩
      · rintro σ H8 ⟨v4', v9', v10', R', kvs', rfl, s8, hS8, kt8, hnd8, hrl8, VR', ⟨more, hmore, hml⟩, hkl', keep, NM⟩
        rw [hyl, List.take_length] at NM
        refine ⟨_, _, _, _, _, _, R', kvs', rfl, s8, hnd8, hrl8, VR', ?_, hkl', keep 0 N0, keep 1 N1, fun x hx hxt => ?_⟩
        · rw [hmore, List.length_append, Nat.add_mul, Nat.one_mul]; omega
        · by_cases e : tieAt n ks x = ti
          · have hxLt := (hLtm x).mpr ⟨hx, e⟩
            rw [← hMs] at hxLt
            obtain ⟨m, hm, rfl⟩ := List.mem_map.mp hxLt
            exact NM (kI m) (hM1.mem_iff.mpr (List.mem_map.mpr ⟨m, hm, rfl⟩)) m hm rfl
          · exact keep x (NL x hx (by omega))
    · rintro σ H5 ⟨v4, v7, v8, v9, v10, v11, R, kvs, rfl, s5, hnd5, ⟨us, hrl5, hI5⟩, VR, hRl, hkl, N0, N1, NL⟩
      rw [hrevl] at hRl NL
      have Nt : NumD n ks kvs R t := by
        by_cases h2 : 2 ≤ t
        · exact NL t (hLt h2) (by omega)
        · have : t = 0 ∨ t = 1 := by omega
          rcases this with rfl | rfl
          · exact N0
          · exact N1
      obtain ⟨y, vy, ny⟩ := Nt
      refine ⟨_, rfl, _, rfl, _, rfl, _, rfl, nd, .int (y : Int), rfl, ?_, ?_⟩
      · have := DGet.k (k := Sum.inl (t : Int)) hnd5
        rw [vy] at this
        exact this
      · intro x dx nx ndx nex
        refine ⟨x, dx, rl, n, y, rfl, upd_same, fun H6 hb hx => ⟨rfl, ?_⟩⟩
        have sA : Same H5 H6 := fun b o e => by
          rw [hb b (ne_of_none e nx), upd_ne (ne_of_none e nx), upd_ne (ne_of_none e ndx)]; exact e
        refine k x R y H6 ((s3.trans s5).trans sA) ⟨dx, rl, hx, us, sA _ _ hrl5, hI5.kt sA.kt⟩ VR ?_ ny.1 ny.2.1 (fun H7 hn kt => ⟨dx, rl, hn x _ ((s3.trans s5).free nx) hx, us, hn rl _ (s3.free hrl3) (sA _ _ hrl5), (hI5.kt sA.kt).kt kt⟩)
        have : n * L.length ≤ 12 * 8202 := Nat.mul_le_mul hn (by omega)
        omega
theorem ok_least_of {P : Program} {w : World} {K : PySem.W.Frag} {mg : Str → Option Value} {base : Heap} {A : Ad} (T : Txt K mg A) : FnOk P w K mg base CX0 4 A.f_least_of A.d_least_of ["n", "rows", "top"] (sp_least_of A) := by
  have G_merged_knots : FnOk P w K mg base CX0 1 A.f_merged_knots A.d_merged_knots ["rows"] (sp_merged_knots) := ok_merged_knots T
  have G_numbered_sieve : FnOk P w K mg base CX0 3 A.f_numbered_sieve A.d_numbered_sieve ["n", "kept", "top"] (sp_numbered_sieve A) := ok_numbered_sieve T
  refine T.F_least_of.ok sc_least_of (fun vs H Q E h => ?_) (fun cdv A' outer s H vs Q E hr h => ?_)
  · obtain ⟨l, n, t, rows, rfl, _⟩ := h
    rfl
  · obtain ⟨l, n, t, rows, rfl, hL, Vr, hn, ht, hlen, k⟩ := h
    refine ⟨_, (pss_cons (ps_asg (pe_call G_merged_knots (hr.mono (by decide)) (by rfl) T.g_merged_knots T.F_merged_knots.kp T.b_merged_knots .nil pass0 (pa_cons (pv 1) pa_nil)) (pgt (K := K) (n := 2) rfl (pgs_cons (pg_name (i := 3) sc_least_of.nd rfl (by first | exact Or.inl rfl | exact Or.inr rfl)) (pgs_cons (pg_name (i := 4) sc_least_of.nd rfl (by first | exact Or.inl rfl | exact Or.inr rfl)) pgs_nil))))
(pss_one (ps_ret (pe_call G_numbered_sieve (hr.mono (by decide)) (by rfl) T.g_numbered_sieve T.F_numbered_sieve.kp T.b_numbered_sieve .nil pass0 (pa_cons (pv 0) (pa_cons (pv 4) (pa_cons (pe_ix (ixl (K := K)) (pv 3) (pv 2) (fun _ _ => rfl)) pa_nil))))))), ?_⟩
    refine ⟨_, rfl, l, n, rows, rfl, hL, Vr, hlen, fun q a b same ks H1 s1 hq ha hb Vk hkl hsl hsm => ?_⟩
    refine ⟨q, _, rfl, SqT.of hq, rfl, _, _, rfl, _, _, rfl, rfl, ?_⟩
    have et : same[t]? = some (same[t]'(by omega)) := List.getElem?_eq_getElem _
    generalize same[t]'(by omega) = y at et
    obtain ⟨y1, y2⟩ := hsm t y et
    refine ⟨_, rfl, _, rfl, _, rfl, _, rfl, a, _, _, _, rfl, rfl, SqL.of ha, at_nI et, b, n, y, ks, rfl, hb, Vk, hn, y1, by omega, fun p R t' H2 s2 hp VR hRl ht' e fr => ?_⟩
    exact k p R t' H2 (s1.trans s2) hp VR hRl ht' (e.trans y2) (fun H3 hn kt => fr H3 (fun b o h => hn b o (s1.free h)) kt)
theorem ok_least_sieve {P : Program} {w : World} {K : PySem.W.Frag} {mg : Str → Option Value} {base : Heap} {A : Ad} (T : Txt K mg A) : FnOk P w K mg base CX0 5 A.f_least_sieve A.d_least_sieve ["n", "rows", "top"] (sp_least_sieve A) := by
  have G_look_many : FnOk P w K mg base CX0 1 A.f_look_many A.d_look_many ["n"] (sp_look_many) := ok_look_many T
  have G_look_rows : FnOk P w K mg base CX0 1 A.f_look_rows A.d_look_rows ["n", "rows", "top"] (sp_look_rows) := ok_look_rows T
  have G_least_of : FnOk P w K mg base CX0 4 A.f_least_of A.d_least_of ["n", "rows", "top"] (sp_least_of A) := ok_least_of T
  refine T.F_least_sieve.ok sc_least_sieve (fun vs H Q E h => ?_) (fun cdv A' outer s H vs Q E hr h => ?_)
  · obtain ⟨l, n, t, rows, rfl, _⟩ := h
    rfl
  · obtain ⟨l, n, t, rows, rfl, hL, Vr, hn, ht, hlen, k⟩ := h
    refine ⟨_, (pss_cons (ps_expr (pe_call G_look_many (hr.mono (by decide)) (by rfl) T.g_look_many T.F_look_many.kp T.b_look_many .nil pass0 (pa_cons (pv 0) pa_nil)))
(pss_cons (ps_expr (pe_call G_look_rows (hr.mono (by decide)) (by rfl) T.g_look_rows T.F_look_rows.kp T.b_look_rows .nil pass0 (pa_cons (pv 0) (pa_cons (pv 1) (pa_cons (pv 2) pa_nil)))))
(pss_one (ps_ret (pe_call G_least_of (hr.mono (by decide)) (by rfl) T.g_least_of T.F_least_of.kp T.b_least_of .nil pass0 (pa_cons (pv 0) (pa_cons (pv 1) (pa_cons (pv 2) pa_nil)))))))), ?_⟩
    refine ⟨_, rfl, n, rfl, hn, ?_⟩
    refine ⟨_, rfl, _, rfl, _, rfl, l, n, t, rows, rfl, hL, Vr, ht, hlen, fun H1 s1 => ?_⟩
    refine ⟨_, rfl, _, rfl, _, rfl, l, n, t, rows, rfl, hL.same s1, Vr, hn, ht, hlen, fun p R t' H2 s2 hp VR hRl ht' e fr => ?_⟩
    exact k p R t' H2 (s1.trans s2) hp VR hRl ht' e (fun H3 hn kt => fr H3 (fun b o h => hn b o (s1.free h)) kt)
end Fw
end

section
set_option Elab.async false
set_option maxRecDepth 100000
set_option maxHeartbeats 4000000
set_option linter.all false
/-! B3: more promises: growing, the law's own helpers. -/
namespace Fw
open PySem PySem.Spec PyProof.Rows L2
/-- a state as a key -/
def sk (s : St) : List Key := (stI s).map Sum.inl
/-- one level: for each state what it becomes -/
def LevelAt (step : St → Nat → Bool → Option St) (H : Hp) (d : Addr) (hs : List St) (k : Nat) : Prop := ∃ kvs, H d = some (.dT kvs) ∧
  Paired (fun (p : List Key × V) s => p.1 = sk s ∧ ∃ b v0 v1, p.2 = .ref b ∧ H b = some (.lst [v0, v1]) ∧ SV H v0 (step s k false) ∧ SV H v1 (step s k true)) kvs hs
/-- the states ahead of each tie -/
structure HSok (step : St → Nat → Bool → Option St) (start : Option St) (many n : Nat) (HS : List (List St)) : Prop where
  len : HS.length = n + 1
  first : ∀ hs, HS[0]? = some hs → hs = start.toList
  nd : ∀ hs ∈ HS, hs.Nodup
  ok : ∀ hs ∈ HS, ∀ s ∈ hs, StOk many s
  small : ∀ k hs, HS[k]? = some hs → hs.length ≤ 2 ^ k
  next : ∀ k hs hs', HS[k]? = some hs → HS[k + 1]? = some hs' → ∀ s ∈ hs, ∀ b s', step s k b = some s' → s' ∈ hs'
section
variable (K : PySem.W.Frag) (A : Ad)
def sp_number_of_state : Sp := fun vs H Q _ => ∃ (v : V) (o : Option St) (d : Addr) (kvs : List (List Key × V)) (y : Nat), vs = [v, .ref d] ∧ SV H v o ∧ H d = some (.dT kvs) ∧ (o = Option.none → y = 0) ∧ (∀ s, o = some s → valV kvs (sk s) = some (.int (y : Int))) ∧ Q (.int (y : Int)) H
def sp_levels_of : Sp := fun vs H Q _ => ∃ (all : Bool) (p wb : Addr) (many : Nat) (W : List (Nat × Nat)), vs = [.ref wb, .ref p] ∧ RuleAt A H p all ∧ WebAt A H wb many W ∧ WRows many W ∧
  ∀ (q lv hr : Addr) (v : V) (ds : List Addr) (HS : List (List St)) (H' : Hp), Same H H' → H' q = some (.tup [v, .ref lv, .ref hr]) → SV H' v (openedM all many (loneP many W)) → H' lv = some (.lst (ds.map V.ref)) → ds.length = W.length → (∀ d ∈ ds, H d = Option.none) →
    HSok (stepM all (eW W) (lastP W)) (openedM all many (loneP many W)) many W.length HS → (∀ k d hs, ds[k]? = some d → HS[k]? = some hs → LevelAt (stepM all (eW W) (lastP W)) H' d hs k) → (∀ hs, HS[W.length]? = some hs → LL H' hr (hs.map stI)) → Q (.ref q) H'
def sp_law_at : Sp := fun vs H Q _ => ∃ (a : Addr) (ns : List Int) (k : Nat), vs = [.ref a, .int k] ∧ SqL K H a (ns.map V.int) ∧ Q (.int (ns.getD k 0)) H
def sp_law_mixed : Sp := fun vs H Q _ => ∃ c : Int, vs = [.int c] ∧ ∀ r : Int, Q (.int r) H
def sp_law_rows : Sp := fun vs H Q _ => ∃ (many : Nat) (c : Int), vs = [.int many, .int c] ∧ 1 ≤ many ∧ many ≤ 10 ∧ ∀ (q : Addr) (R : List (Nat × Nat)) (H' : Hp), Same H H' → LL H' q (R.map rI) → GoodRows many R → Q (.ref q) H'
def sp_law_web : Sp := fun vs H Q _ => ∃ c : Int, vs = [.int c] ∧ ∀ (q l : Addr) (many : Nat) (R : List (Nat × Nat)) (H' : Hp), Same H H' → H' q = some (.tup [.int many, .ref l]) → LL H' l (R.map rI) → GoodRows many R → Q (.ref q) H'
/-- some set of ties comes out -/
def SomeSet (n : Nat) (H : Hp) (Q : VK) : Prop := ∀ (v : V) (S : List Nat) (H' : Hp), Same H H' → IT H' v (nI S) → S.Pairwise (· < ·) → (∀ x ∈ S, x < n) → Q v H'
def sp_law_bits : Sp := fun vs H Q _ => ∃ (l : Addr) (c : Int) (R : List (Nat × Nat)), vs = [.ref l, .int c] ∧ LL H l (R.map rI) ∧ R.length ≤ 12 ∧ SomeSet R.length H Q
def sp_law_walked : Sp := fun vs H Q _ => ∃ (l : Addr) (c : Int) (many : Nat) (R : List (Nat × Nat)), vs = [.int many, .ref l, .int c] ∧ LL H l (R.map rI) ∧ GoodRows many R ∧ SomeSet R.length H Q
def sp_law_round : Sp := fun vs H Q _ => ∃ (l : Addr) (v : V) (many : Nat) (R : List (Nat × Nat)) (S : List Nat), vs = [.ref l, v] ∧ LL H l (R.map rI) ∧ (∀ r ∈ R, r.1 ≠ r.2 ∧ r.1 < many ∧ r.2 < many) ∧ R.length ≤ 12 ∧ IT H v (nI S) ∧ S.Pairwise (· < ·) ∧ (∀ x ∈ S, x < R.length) ∧
  ∀ q H', Same H H' → H' q = some (.lst ((nI (walk (eW R) S)).map V.int)) → Q (.ref q) H'
def sp_law_set : Sp := fun vs H Q _ => ∃ (l t : Addr) (c : Int) (many k : Nat) (R : List (Nat × Nat)) (L : List (List Nat)), vs = [.int many, .ref l, .ref t, .int c, .int k] ∧ LL H l (R.map rI) ∧ GoodRows many R ∧ LL H t (L.map nI) ∧ L.length ≤ 4096 ∧
  (∀ X ∈ L, X.Pairwise (· < ·) ∧ ∀ x ∈ X, x < R.length) ∧ SomeSet R.length H Q
def sp_law_right : Sp := fun vs H Q _ => ∃ (all due asked : Bool) (wb rl sv : Addr) (v : V) (many n t : Nat) (W : List (Nat × Nat)) (rows : List Kn) (S : List Nat), vs = [.ref wb, .ref rl, .ref sv, v, .bl due, .bl asked] ∧ RuleAt A H rl all ∧ WebAt A H wb many W ∧ WRows many W ∧ SieAt A H sv n rows t ∧ Valid n rows ∧ t < rows.length + 2 ∧
  IT H v (nI S) ∧ S.Pairwise (· < ·) ∧ accW all many W S = due ∧ decide (S ∈ setsAt rows t) = due ∧ ∀ H', Same H H' → Q (.bl true) H'
def sp_law_elsewhere : Sp := fun vs H Q _ => ∃ (rs r0 r1 l : Addr) (many : Nat) (R : List (Nat × Nat)), vs = [.ref rs, .int many, .ref l] ∧ H rs = some (.lst [.ref r0, .ref r1]) ∧ RuleAt A H r0 false ∧ RuleAt A H r1 true ∧ LL H l (R.map rI) ∧ GoodRows many R ∧ ∀ H', Same H H' → Q (.bl true) H'
def sp_law : Sp := fun vs H Q _ => ∃ (a : Addr) (ns : List Int), vs = [.ref a] ∧ SqL K H a (ns.map V.int) ∧ ns.length ≤ 63 ∧ ∀ H', Q (.bl true) H'
end
end Fw
end

section
set_option Elab.async false
set_option maxRecDepth 100000
set_option maxHeartbeats 4000000
set_option linter.all false
/-! D11: the levels of states. -/
namespace Fw
open PySem PySem.Spec PyProof.Rows L2
theorem sk_val (s : St) : (sk s).map kV = (stI s).map V.int := by unfold sk; rw [List.map_map]; rfl
theorem stI_inj {a b : St} (h : stI a = stI b) : a = b := by
  unfold stI at h
  have h1 := List.append_inj' h rfl
  obtain ⟨am, ac⟩ := a
  obtain ⟨bm, bc⟩ := b
  simp only at h1
  obtain ⟨rfl, h2⟩ := h1
  have : ac = bc := by cases ac <;> cases bc <;> first | rfl | (simp [bI] at h2)
  rw [this]
theorem sk_inj {a b : St} (h : sk a = sk b) : a = b := by
  apply stI_inj
  unfold sk at h
  exact List.map_inj_right (fun x y e => Sum.inl.inj e) |>.mp h
theorem valV_none {κ : Type} [DecidableEq κ] {k : κ} : ∀ {kvs : List (κ × V)}, k ∉ kvs.map (·.1) → valV kvs k = Option.none
  | [], _ => rfl
  | p :: r, h => by
    rw [valV_neg (fun z => h (by rw [← z]; exact List.mem_cons_self))]
    exact valV_none fun z => h (List.mem_cons_of_mem _ z)
theorem ok_number_of_state {P : Program} {w : World} {K : PySem.W.Frag} {mg : Str → Option Value} {base : Heap} {A : Ad} (T : Txt K mg A) : FnOk P w K mg base CX0 1 A.f_number_of_state A.d_number_of_state ["state", "numbers"] (sp_number_of_state) := by
  refine T.F_number_of_state.ok sc_number_of_state (fun vs H Q E h => ?_) (fun cdv A' outer s H vs Q E hr h => ?_)
  · obtain ⟨v, o, d, kvs, y, rfl, _⟩ := h
    rfl
  · obtain ⟨v, o, d, kvs, y, rfl, hv, hd, h0, h1, k⟩ := h
    have hu := hu_of hr
    refine ⟨_, (pss_cons (ps_if (pt_cmp (pc_isN (pv 0)))
(pss_one (ps_ret pe_int))
pss_nil)
(pss_one (ps_ret (pe_dget hu (pv 1) (pv 0) (fun _ _ => rfl))))), ?_⟩
    refine ⟨_, rfl, _, rfl, ?_⟩
    cases o with
    | none =>
      have hv : v = .non := hv
      subst hv
      refine iteT ?_
      have := h0 rfl
      subst this
      exact k
    | some s =>
      refine iteN (decide_eq_false hv.ne) ?_
      obtain ⟨a, rfl, ha⟩ := hv
      refine ⟨_, rfl, _, rfl, d, .int (y : Int), rfl, ?_, k⟩
      have := DGet.t (k := sk s) hd (by rw [sk_val]; exact ha)
      rw [h1 s rfl] at this
      exact this
/-! ### states put together -/
def addS (hs : List St) : Option St → List St
  | Option.none => hs
  | some s => if s ∈ hs then hs else hs ++ [s]
theorem addS_some (hs : List St) (s : St) : addS hs (some s) = if s ∈ hs then hs else hs ++ [s] := rfl
theorem mem_addS {hs : List St} {o : Option St} {x : St} : x ∈ addS hs o ↔ x ∈ hs ∨ o = some x := by
  cases o with
  | none => simp [addS]
  | some s =>
    rw [addS_some]
    by_cases h : s ∈ hs
    · rw [if_pos h]
      constructor
      · exact .inl
      · rintro (z | z)
        · exact z
        · cases z; exact h
    · rw [if_neg h]
      simp [eq_comm]
theorem nd_addS {hs : List St} (h : hs.Nodup) (o : Option St) : (addS hs o).Nodup := by
  cases o with
  | none => exact h
  | some s =>
    rw [addS_some]
    by_cases q : s ∈ hs
    · rw [if_pos q]; exact h
    · rw [if_neg q, List.nodup_append]
      exact ⟨h, by simp, by intro a ha c hc; rw [List.mem_singleton.mp hc]; exact fun z => q (z ▸ ha)⟩
theorem len_addS (hs : List St) (o : Option St) : (addS hs o).length ≤ hs.length + 1 := by
  cases o with
  | none => exact Nat.le_succ _
  | some s =>
    rw [addS_some]
    split
    · omega
    · simp
def Lk (hs : List St) : List (List Key × V) := hs.map fun s => (sk s, V.bl true)
theorem Lk_put (hs : List St) (s : St) : putK (Lk hs) (sk s) (V.bl true) = Lk (addS hs (some s)) := by
  have hany : ∀ l : List St, ((Lk l).any fun kv => decide (kv.1 = sk s)) = decide (s ∈ l) := by
    intro l
    induction l with
    | nil => rfl
    | cons x l ih =>
      show (decide (sk x = sk s) || (Lk l).any fun kv => decide (kv.1 = sk s)) = _
      rw [ih]
      by_cases q : x = s
      · subst q; simp
      · simp [q, Ne.symm q, show ¬ sk x = sk s from fun z => q (sk_inj z)]
  unfold putK
  rw [hany]
  rw [addS_some]
  by_cases h : s ∈ hs
  · rw [if_pos (decide_eq_true h), if_pos h]
    have : ∀ l : List St, (Lk l).map (fun kv => if kv.1 = sk s then (kv.1, V.bl true) else kv) = Lk l := by
      intro l
      unfold Lk
      rw [List.map_map]
      apply List.map_congr_left
      intro x _
      simp
    exact this hs
  · rw [if_neg (by simp [h]), if_neg h]
    simp [Lk]
section
variable {step : St → Nat → Bool → Option St} {start : Option St} {many i : Nat} {HS : List (List St)}
theorem HSok.begin (h : ∀ s, start = some s → StOk many s) : HSok step start many 0 [start.toList] where
  len := rfl
  first := fun hs e => (Option.some.inj e).symm
  nd := fun hs e => by rw [List.mem_singleton.mp e]; cases start <;> simp
  ok := fun hs e s hs' => by
    rw [List.mem_singleton.mp e] at hs'
    cases start with
    | none => cases hs'
    | some t => rw [List.mem_singleton.mp hs']; exact h t rfl
  small := fun k hs e => by
    have hk := (List.getElem?_eq_some_iff.mp e).1
    simp at hk
    subst hk
    have := (Option.some.inj e).symm
    subst this
    cases start <;> simp
  next := fun k hs hs' e e' => by
    have hk := (List.getElem?_eq_some_iff.mp e').1
    simp at hk
theorem HSok.snoc (h : HSok step start many i HS) {hs hs' : List St} (e : HS[i]? = some hs) (nd : hs'.Nodup) (ok : ∀ s ∈ hs', StOk many s) (small : hs'.length ≤ 2 * hs.length) (next : ∀ s ∈ hs, ∀ b s', step s i b = some s' → s' ∈ hs') : HSok step start many (i + 1) (HS ++ [hs']) where
  len := by rw [List.length_append, h.len]; rfl
  first := fun x ex => by
    rw [List.getElem?_append_left (by rw [h.len]; omega)] at ex
    exact h.first x ex
  nd := fun x hx => by
    rcases mem_last hx with z | z
    · exact h.nd x z
    · rw [z]; exact nd
  ok := fun x hx => by
    rcases mem_last hx with z | z
    · exact h.ok x z
    · rw [z]; exact ok
  small := fun k x ex => by
    by_cases hk : k < HS.length
    · rw [List.getElem?_append_left hk] at ex
      exact h.small k x ex
    · rw [List.getElem?_append_right (by omega)] at ex
      have hk2 := (List.getElem?_eq_some_iff.mp ex).1
      simp at hk2
      have : k = HS.length := by omega
      subst this
      simp at ex
      subst ex
      have := h.small i hs e
      rw [h.len, Nat.pow_succ]; omega
  next := fun k x x' ex ex' => by
    have hk := (List.getElem?_eq_some_iff.mp ex').1
    rw [List.length_append, List.length_singleton] at hk
    rw [List.getElem?_append_left (by omega)] at ex
    by_cases hk2 : k + 1 < HS.length
    · rw [List.getElem?_append_left hk2] at ex'
      exact h.next k x x' ex ex'
    · rw [List.getElem?_append_right (by omega)] at ex'
      have hl := h.len
      have : k = i := by omega
      subst this
      rw [e] at ex
      cases ex
      rw [show k + 1 - HS.length = 0 by omega] at ex'
      cases ex'
      exact next
end
/-- a level whose lists are not the list of levels -/
def LevelB (step : St → Nat → Bool → Option St) (H : Hp) (lv d : Addr) (hs : List St) (k : Nat) : Prop := d ≠ lv ∧ ∃ kvs, H d = some (.dT kvs) ∧
  Paired (fun (p : List Key × V) s => p.1 = sk s ∧ ∃ b v0 v1, b ≠ lv ∧ p.2 = .ref b ∧ H b = some (.lst [v0, v1]) ∧ SV H v0 (step s k false) ∧ SV H v1 (step s k true)) kvs hs
theorem LevelB.at {step : St → Nat → Bool → Option St} {H : Hp} {lv d : Addr} {hs : List St} {k : Nat} (h : LevelB step H lv d hs k) : LevelAt step H d hs k := by
  obtain ⟨_, kvs, a, p⟩ := h
  exact ⟨kvs, a, Paired.mapP p fun _ _ ⟨e, b, v0, v1, _, r⟩ => ⟨e, b, v0, v1, r⟩⟩
theorem LevelB.keep {step : St → Nat → Bool → Option St} {H H' : Hp} {lv d : Addr} {hs : List St} {k : Nat} (h : LevelB step H lv d hs k) (f : But lv H H') (kt : KT H H') : LevelB step H' lv d hs k := by
  obtain ⟨hd, kvs, a, p⟩ := h
  exact ⟨hd, kvs, f _ _ a hd, Paired.mapP p fun _ _ ⟨e, b, v0, v1, nb, e2, hb, s0, s1⟩ => ⟨e, b, v0, v1, nb, e2, f _ _ hb nb, s0.kt kt, s1.kt kt⟩⟩
theorem _root_.L2.Same.but {p : Addr} {H H' : Hp} (s : Same H H') : But p H H' := fun b o e _ => s b o e
theorem paired_keys {step : St → Nat → Bool → Option St} {H : Hp} {lv : Addr} {k : Nat} {kvs : List (List Key × V)} {hs : List St}
    (p : Paired (fun (p : List Key × V) s => p.1 = sk s ∧ ∃ b v0 v1, b ≠ lv ∧ p.2 = .ref b ∧ H b = some (.lst [v0, v1]) ∧ SV H v0 (step s k false) ∧ SV H v1 (step s k true)) kvs hs) : kvs.map (·.1) = hs.map sk := by
  induction p with
  | nil => rfl
  | cons a t ih => rw [List.map_cons, List.map_cons, ih, a.1]
theorem Paired.snocP {α β : Type} {F : α → β → Prop} {l : List α} {m : List β} {a : α} {b : β} (h : Paired F l m) (q : F a b) : Paired F (l ++ [a]) (m ++ [b]) := PySem.Paired.snoc h q
theorem ok_levels_of {P : Program} {w : World} {K : PySem.W.Frag} {mg : Str → Option Value} {base : Heap} {A : Ad} (T : Txt K mg A) : FnOk P w K mg base CX0 4 A.f_levels_of A.d_levels_of ["web", "rule"] (sp_levels_of A) := by
  have G_R_opened : ∀ all : Bool, FnOk P w K mg base CX0 3 A.f_Rule_opened A.d_Rule_opened ["self", "web"] (sp_Rule_opened A all) := fun all => ok_Rule_opened T all
  have G_last_points : FnOk P w K mg base CX0 2 A.f_last_points A.d_last_points ["web"] (sp_last_points A) := ok_last_points T
  have G_R_stepped : ∀ all : Bool, FnOk P w K mg base CX0 3 A.f_Rule_stepped A.d_Rule_stepped ["self", "web", "state", "k", "taken", "last"] (sp_Rule_stepped K A all) := fun all => ok_Rule_stepped T all
  refine T.F_levels_of.ok sc_levels_of (fun vs H Q E h => ?_) (fun cdv A' outer s H vs Q E hr h => ?_)
  · obtain ⟨all, p, wb, m, W, rfl, _⟩ := h
    rfl
  · obtain ⟨all, p, wb, m, W, rfl, hr1, hW, hR, k⟩ := h
    have hu := hu_of hr
    refine ⟨_, (pss_cons (ps_set (i := 2) sc_levels_of.nd rfl (by first | exact Or.inl rfl | exact Or.inr rfl) (pe_meth (pv 1) (T.cl_R all) (T.m_R_opened all) (G_R_opened all) (hr.mono (by decide)) T.b_Rule_opened .nil pass0 (pa_cons (pv 0) pa_nil)))
(pss_cons (ps_setLc (i := 3) (own := [("state", 9)]) rfl sc_levels_of.nd rfl rfl (sw_true rfl rfl rfl (by decide +kernel)) (pil (K := K) (pe_lst (pa_cons (pv 2) pa_nil))) (blkOk_by (N := ["web", "rule", "start", "here", "levels", "k", "last", "level", "later", "state", "both", "one", "taken"]) (sc := defScope s_levels_of) (by decide +kernel)) (fun _ _ _ _ _ => (pg_name (i := 9) sc_levels_of.nd rfl (by first | exact Or.inl rfl | exact Or.inr rfl))) (fun _ _ _ _ _ => (pts_one (pt_cmp (pc_notN (pv 9))))) (fun _ _ _ _ _ => (pv 9)))
(pss_cons (ps_set (i := 4) sc_levels_of.nd rfl (by first | exact Or.inl rfl | exact Or.inr rfl) (pe_lst pa_nil))
(pss_cons (ps_for PassesOwn.never rfl (pien (K := K) (by rfl) T.z_enumerate (pa_cons (pe_call G_last_points (hr.mono (by decide)) (by rfl) T.g_last_points T.F_last_points.kp T.b_last_points .nil pass0 (pa_cons (pv 0) pa_nil)) pa_nil)) (pgt (K := K) (n := 2) rfl (pgs_cons (pg_name (i := 5) sc_levels_of.nd rfl (by first | exact Or.inl rfl | exact Or.inr rfl)) (pgs_cons (pg_name (i := 6) sc_levels_of.nd rfl (by first | exact Or.inl rfl | exact Or.inr rfl)) pgs_nil)))
(pss_cons (ps_set (i := 7) sc_levels_of.nd rfl (by first | exact Or.inl rfl | exact Or.inr rfl) pe_dnewT)
(pss_cons (ps_set (i := 8) sc_levels_of.nd rfl (by first | exact Or.inl rfl | exact Or.inr rfl) pe_dnewT)
(pss_cons (ps_for PassesOwn.never rfl (pil (K := K) (pv 3)) (pg_name (i := 9) sc_levels_of.nd rfl (by first | exact Or.inl rfl | exact Or.inr rfl))
(pss_cons (ps_setLc (i := 10) (own := [("taken", 12)]) rfl sc_levels_of.nd rfl rfl (sw_true rfl rfl rfl (by decide +kernel)) (pit (K := K) (pe_tup (pa_cons pe_bl (pa_cons pe_bl pa_nil)))) (blkOk_by (N := ["web", "rule", "start", "here", "levels", "k", "last", "level", "later", "state", "both", "one", "taken"]) (sc := defScope s_levels_of) (by decide +kernel)) (fun _ _ _ _ _ => (pg_name (i := 12) sc_levels_of.nd rfl (by first | exact Or.inl rfl | exact Or.inr rfl))) (fun _ _ _ _ _ => pts_nil) (fun _ _ _ _ _ => (pe_meth (pv 1) (T.cl_R all) (T.m_R_stepped all) (G_R_stepped all) (hr.mono (by decide)) T.b_Rule_stepped .nil pass0 (pa_cons (pv 0) (pa_cons (pv 9) (pa_cons (pv 5) (pa_cons (pv 12) (pa_cons (pv 6) pa_nil))))))))
(pss_cons (ps_dput hu (pv 7) (pv 9) (pv 10) rfl)
(pss_one (ps_for PassesOwn.never rfl (pil (K := K) (pv 10)) (pg_name (i := 11) sc_levels_of.nd rfl (by first | exact Or.inl rfl | exact Or.inr rfl))
(pss_one (ps_if (pt_cmp (pc_notN (pv 11)))
(pss_one (ps_dput hu (pv 8) (pv 11) pe_bl rfl))
pss_nil)))))))
(pss_cons (ps_expr (pe_bm PySem.F.plainAttrs_list PySem.F.slot_list_append PySem.F.type_list_append mt_append (pv 4) (pa_cons (pv 7) pa_nil)))
(pss_one (ps_set (i := 3) sc_levels_of.nd rfl (by first | exact Or.inl rfl | exact Or.inr rfl) (pe_callTy (call_list_dT rfl) (by rfl) T.z_list (by decide +kernel) (pa_cons (pv 8) pa_nil)))))))))
(pss_one (ps_ret (pe_tup (pa_cons (pv 2) (pa_cons (pv 4) (pa_cons (pv 3) pa_nil)))))))))), ?_⟩
    have hn12 := hR.len
    obtain ⟨dx, hp⟩ := id hr1
    -- start = rule.opened(web)
    refine ⟨_, rfl, p, dx, _, rfl, hp, rfl, _, rfl, p, wb, m, W, rfl, hr1, hW, hR, fun v H1 s1 hv1 => ?_⟩
    generalize hst : openedM all m (loneP m W) = start at *
    have hsok : ∀ s, start = some s → StOk m s := fun s e => OkOpened (all := all) (lone := loneP m W) (hst.trans e)
    -- here = [state for state in [start] if state is not None]
    refine ⟨_, rfl, by show 1 ≤ sizeLine; decide, fun l0 hl0 => ?_⟩
    have s2 := s1.newer (o := .lst [v]) hl0
    have hl2 : (upd H1 l0 (.lst [v])) l0 = some (.lst [v]) := upd_same
    have hv2 := hv1.kt (KT.new hl0 (o := .lst [v]))
    generalize (upd H1 l0 (.lst [v])) = H2 at s2 hl2 hv2
    refine ⟨l0, rfl, ⟨_, SqL.of hl2⟩, fun D hD => ?_⟩
    refine lc_list (K := K) (a := l0) (xs := [v]) (fun j H3 => Same H2 H3 ∧ LL H3 D (if j = 0 then [] else start.toList.map stI)) ⟨Same_new hD, [], upd_same, .nil⟩ (fun j H3 _ z => SqL.of (z.1 _ _ hl2)) ?_ ?_
    · rintro j y H3 hj ⟨s3, ws, hD3, hI3⟩
      have hj0 : j = 0 := by have := (List.getElem?_eq_some_iff.mp hj).1; simp at this; exact this
      subst hj0
      have hy : y = v := (Option.some.inj hj).symm
      subst hy
      rw [if_pos rfl] at hI3
      cases hI3
      refine ⟨rfl, _, rfl, _, rfl, ?_⟩
      cases start with
      | none =>
        have hv2 : y = .non := hv2
        subst hv2
        exact iteF ⟨s3, [], hD3, .nil⟩
      | some s0 =>
        refine iteY (by simp [hv2.ne]) ?_
        refine ⟨_, rfl, _, hD3, szl (by simp), s3.mut hD, _, upd_same, ?_⟩
        have hv3 := hv2.kt s3.kt
        exact .cons (IT.kt hv3 (KT.mut hD3 trivial)) .nil
    rintro H3 ⟨s23, hD3⟩
    have hD3 : LL H3 D (start.toList.map stI) := hD3
    have s3 := s2.trans s23
    have hv3 := hv2.kt s23.kt
    -- levels = []
    refine ⟨Nat.zero_le _, fun lv hlv => ?_⟩
    have s34 := Same_new (o := .lst []) hlv
    have hlv4 : (upd H3 lv (.lst [])) lv = some (.lst []) := upd_same
    have nDlv : D ≠ lv := by obtain ⟨ws, e, _⟩ := hD3; exact ne_of_none e hlv
    have hlvH := s3.free hlv
    generalize (upd H3 lv (.lst [])) = H4' at s34 hlv4
    -- last_points(web)
    refine ⟨_, rfl, wb, m, W, rfl, (hW.same s3).same s34, hR, fun q us H4 s4 hq0 hq hul hus => ?_⟩
    have nqlv : q ≠ lv := (ne_of_none hlv4 hq0).symm
    have hlv4' := s4 _ _ hlv4
    have hHlv : ∀ b o, H b = some o → b ≠ lv := fun b o e z => by rw [z, hlvH] at e; cases e
    have s04 := (s3.trans s34).trans s4
    have hv4 := hv3.kt (s34.trans s4).kt
    have hD4 := hD3.same (s34.trans s4)
    refine ⟨q, us, rfl, SqL.of hq, ?_⟩
    refine for_it (walk_enum (K := K) (a := q) (xs := us)) (fun i σ H5 => ∃ v5 v6 v7 v8 v9 v10 v11 v12 hr' ds HS hs, σ = [some (.ref wb), some (.ref p), some v, some (.ref hr'), some (.ref lv), v5, v6, v7, v8, v9, v10, v11, v12] ∧ But lv H4 H5 ∧ H5 lv = some (.lst (ds.map V.ref)) ∧ ds.length = i ∧ (∀ d ∈ ds, H d = Option.none) ∧ HSok (stepM all (eW W) (lastP W)) start m i HS ∧ HS[i]? = some hs ∧ hr' ≠ lv ∧ LL H5 hr' (hs.map stI) ∧ ∀ k d hs, ds[k]? = some d → HS[k]? = some hs → LevelB (stepM all (eW W) (lastP W)) H5 lv d hs k)
      ⟨_, _, _, _, _, _, _, _, D, [], [start.toList], start.toList, rfl, (Same.refl H4).but, hlv4', rfl, (fun d hd => nomatch hd), HSok.begin hsok, rfl, nDlv, hD4, fun k d hs e => by simp at e⟩ (fun i σ H5 _ ⟨_, _, _, _, _, _, _, _, _, _, _, _, _, z, _⟩ => SqL.of (z _ _ hq nqlv)) ?_ ?_
    · rintro i y σ H5 H6 hi ⟨v5, v6, v7, v8, v9, v10, v11, v12, hr', ds, HS, hs, rfl, bt5, hlv5, hdl, hdsH, HO, hHS, nhr, ⟨uh, hh5, hIh⟩, hLev⟩ ⟨t, y1, y2, rfl, ht, rfl, e1, e2⟩
      cases e1
      have hiW : i < W.length := by omega
      obtain ⟨la, la0, ela, hla⟩ := hus i hiW
      have e2 : us[i]? = some y2 := e2
      rw [ela] at e2
      cases e2
      have nlalv : la ≠ lv := (ne_of_none hlv4 la0).symm
      refine ⟨t, _, rfl, SqT.of upd_same, rfl, _, _, rfl, _, _, rfl, rfl, ?_⟩
      have s56 := Same_new (o := .tup [.int i, .ref la]) ht
      generalize (upd H5 t (.tup [.int i, .ref la])) = H6 at s56
      have hlv6 := s56 _ _ hlv5
      have hh6 := s56 _ _ hh5
      have hIh6 := hIh.kt s56.kt
      have s06 : Same H H6 := fun b o e => s56 _ _ (bt5 _ _ (s04 _ _ e) (hHlv b o e))
      have hla6 := s56 _ _ (bt5 _ _ hla nlalv)
      have hul5 : uh.length = hs.length := by rw [hIh.len, List.length_map]
      have hsm := HO.small i hs hHS
      have hsm12 : hs.length ≤ 4096 := Nat.le_trans hsm (Nat.le_trans (Nat.pow_le_pow_right (by decide) (by omega : i ≤ 12)) (by decide))
      have hsnd := HO.nd hs (List.mem_of_getElem? hHS)
      have hsok2 := HO.ok hs (List.mem_of_getElem? hHS)
      have hpts := hR.pts _ (eW_mem hiW)
      -- level = {}; later = {}
      intro Ld hLd
      intro La hLa
      have s67 : Same H6 (upd (upd H6 Ld (.dT [])) La (.dT [])) := (Same_new hLd).newer hLa
      have hLa6 : H6 La = Option.none := (Same_new hLd).free hLa
      have nLL : Ld ≠ La := ne_of_none upd_same hLa
      have hLd7 : (upd (upd H6 Ld (.dT [])) La (.dT [])) Ld = some (.dT []) := Same_new hLa _ _ upd_same
      have hLa7 : (upd (upd H6 Ld (.dT [])) La (.dT [])) La = some (.dT []) := upd_same
      generalize (upd (upd H6 Ld (.dT [])) La (.dT [])) = H7 at s67 hLd7 hLa7
      -- for state in here
      refine ⟨_, rfl, hr', rfl, ⟨_, SqL.of (s67 _ _ hh6)⟩, for_list (K := K) (a := hr') (xs := uh) (fun j σ H8 => ∃ v9 v10 v11 v12 kvs hs', σ = [some (.ref wb), some (.ref p), some v, some (.ref hr'), some (.ref lv), some (.int i), some (.ref la), some (.ref Ld), some (.ref La), v9, v10, v11, v12] ∧ Same H6 H8 ∧ H8 Ld = some (.dT kvs) ∧
          Paired (fun (p : List Key × V) s => p.1 = sk s ∧ ∃ b v0 v1, b ≠ lv ∧ p.2 = .ref b ∧ H8 b = some (.lst [v0, v1]) ∧ SV H8 v0 (stepM all (eW W) (lastP W) s i false) ∧ SV H8 v1 (stepM all (eW W) (lastP W) s i true)) kvs (hs.take j) ∧
          H8 La = some (.dT (Lk hs')) ∧ hs'.Nodup ∧ (∀ s ∈ hs', StOk m s) ∧ hs'.length ≤ 2 * j ∧ ∀ s ∈ hs.take j, ∀ b s', stepM all (eW W) (lastP W) s i b = some s' → s' ∈ hs')
        ⟨_, _, _, _, [], [], rfl, s67, hLd7, .nil, hLa7, List.nodup_nil, (fun s hs => nomatch hs), Nat.zero_le _, fun s hs => by simp at hs⟩ (fun j σ H8 _ ⟨_, _, _, _, _, _, _, z, _⟩ => SqL.of (z _ _ hh6)) ?_ ?_⟩
      · rintro j y σ H8 hj ⟨v9, v10, v11, v12, kvs, hs', rfl, s68, hLd8, hPd, hLa8, hnd', hok', hln', hnx'⟩
        obtain ⟨ns, e3, hy⟩ := hIh6.get hj
        have hjl : j < hs.length := by have := (List.getElem?_eq_some_iff.mp hj).1; omega
        have es : hs[j]? = some hs[j] := List.getElem?_eq_getElem hjl
        generalize hs[j] = s at es
        rw [List.getElem?_map, es] at e3
        cases e3
        have hsm := List.mem_of_getElem? es
        have hsS := hsok2 s hsm
        have s08 := s06.trans s68
        have hy8 := hy.kt s68.kt
        -- both = [..]
        refine ⟨by show 2 ≤ sizeLine; decide, fun tp htp => ?_⟩
        have s89 := Same_new (o := .tup [.bl false, .bl true]) htp
        have htp9 : (upd H8 tp (.tup [.bl false, .bl true])) tp = some (.tup [.bl false, .bl true]) := upd_same
        generalize (upd H8 tp (.tup [.bl false, .bl true])) = H9 at s89 htp9
        refine ⟨tp, rfl, ⟨_, SqT.of htp9⟩, fun E2 hE2 => ?_⟩
        refine lc_tup (K := K) (a := tp) (xs := [.bl false, .bl true]) (fun j H10 => Same H9 H10 ∧ ∃ vs, H10 E2 = some (.lst vs) ∧ Paired (fun v b => SV H10 v (stepM all (eW W) (lastP W) s i b)) vs (([false, true] : List Bool).take j)) ⟨Same_new hE2, [], upd_same, .nil⟩ (fun j H10 _ z => SqT.of (z.1 _ _ htp9)) ?_ ?_
        · rintro jj z H10 hjj ⟨s910, vs, hE10, hPv⟩
          obtain ⟨b, eb, rfl⟩ : ∃ b, ([false, true] : List Bool)[jj]? = some b ∧ z = .bl b := by
            match jj, hjj with
            | 0, h => exact ⟨false, rfl, (Option.some.inj h).symm⟩
            | 1, h => exact ⟨true, rfl, (Option.some.inj h).symm⟩
          have hvl : vs.length ≤ 2 := by
            have := Paired.length hPv
            rw [List.length_take] at this; simp at this; omega
          have s010 := (s08.trans s89).trans s910
          obtain ⟨dx10, hp10⟩ := hr1.same s010
          refine ⟨rfl, yesIf ?_⟩
          refine ⟨_, rfl, p, dx10, _, rfl, hp10, rfl, _, rfl, _, rfl, _, rfl, _, rfl, _, rfl, p, wb, la, y, m, i, W, s, b, rfl, hr1.same s010, hW.same s010, hR, hy8.kt (s89.trans s910).kt, hsS, hiW, SqL.of (((s68.trans s89).trans s910) _ _ hla6), fun v' H11 s11 hv' => ?_⟩
          have hE11 := s11 _ _ hE10
          refine ⟨vs, hE11, szl (by omega), (s910.trans s11).mut hE2, vs ++ [v'], upd_same, ?_⟩
          have nt := KT.mut (o := .lst (vs ++ [v'])) hE11 trivial
          rw [take_snoc eb]
          exact Paired.snocP (Paired.mapP hPv fun _ _ q => SV.kt q (s11.kt.trans nt)) (hv'.kt nt)
        rintro H10 ⟨s910, vs, hE10, hPv⟩
        obtain ⟨v0, v1, rfl, sv0, sv1⟩ : ∃ v0 v1, vs = [v0, v1] ∧ SV H10 v0 (stepM all (eW W) (lastP W) s i false) ∧ SV H10 v1 (stepM all (eW W) (lastP W) s i true) := by
          have hPv : Paired (fun v b => SV H10 v (stepM all (eW W) (lastP W) s i b)) vs [false, true] := hPv
          cases hPv with
          | cons a t =>
            cases t with
            | cons b u =>
              cases u
              exact ⟨_, _, rfl, a, b⟩
        have s810 := s89.trans s910
        have s610 := s68.trans s810
        have nElv : E2 ≠ lv := fun z => by
          have := (s68.trans s89) _ _ hlv6
          rw [← z, hE2] at this; cases this
        have hLd10 := s810 _ _ hLd8
        have hLa10 := s810 _ _ hLa8
        have hPd10 := Paired.mapP hPd fun p s (q : p.1 = sk s ∧ ∃ b v0 v1, b ≠ lv ∧ p.2 = .ref b ∧ H8 b = some (.lst [v0, v1]) ∧ SV H8 v0 (stepM all (eW W) (lastP W) s i false) ∧ SV H8 v1 (stepM all (eW W) (lastP W) s i true)) =>
          (show p.1 = sk s ∧ ∃ b v0 v1, b ≠ lv ∧ p.2 = .ref b ∧ H10 b = some (.lst [v0, v1]) ∧ SV H10 v0 (stepM all (eW W) (lastP W) s i false) ∧ SV H10 v1 (stepM all (eW W) (lastP W) s i true) from
            let ⟨e, b, v0, v1, n, e2, h, a, c⟩ := q; ⟨e, b, v0, v1, n, e2, s810 _ _ h, a.kt s810.kt, c.kt s810.kt⟩)
        obtain ⟨ya, rfl, hya⟩ := hy8.kt s810.kt
        -- level[state] = both
        have hnone : valV kvs (sk s) = Option.none := by
          refine valV_none ?_
          rw [paired_keys hPd]
          intro z
          obtain ⟨s', hs', e⟩ := List.mem_map.mp z
          have := sk_inj e
          subst this
          exact nd_take hsnd es hs'
        have hkl : kvs.length ≤ 4096 := by
          have := Paired.length hPd
          rw [List.length_take] at this; omega
        refine ⟨_, rfl, _, rfl, _, rfl, Ld, _, rfl, DPut.t (k := sk s) hLd10 (by rw [sk_val]; exact hya) (szl (by omega)), ?_⟩
        rw [putK_new _ hnone]
        have s611 : Same H6 (upd H10 Ld (.dT (kvs ++ [(sk s, .ref E2)]))) := s610.mut hLd
        have hLd11 : (upd H10 Ld (.dT (kvs ++ [(sk s, .ref E2)]))) Ld = some (.dT (kvs ++ [(sk s, .ref E2)])) := upd_same
        have hLa11 : (upd H10 Ld (.dT (kvs ++ [(sk s, .ref E2)]))) La = some (.dT (Lk hs')) := by rw [upd_ne nLL.symm]; exact hLa10
        have kt11 : KT H10 (upd H10 Ld (.dT (kvs ++ [(sk s, .ref E2)]))) := KT.mut hLd10 trivial
        have lst11 : ∀ b xs, H10 b = some (.lst xs) → (upd H10 Ld (.dT (kvs ++ [(sk s, .ref E2)]))) b = some (.lst xs) := fun b xs e => by
          rw [upd_ne (ne_of e hLd10 (by intro z; cases z))]; exact e
        generalize (upd H10 Ld (.dT (kvs ++ [(sk s, .ref E2)]))) = H11 at s611 hLd11 hLa11 kt11 lst11
        have hE11 := lst11 _ _ hE10
        have hPd11 : Paired (fun (p : List Key × V) s => p.1 = sk s ∧ ∃ b v0 v1, b ≠ lv ∧ p.2 = .ref b ∧ H11 b = some (.lst [v0, v1]) ∧ SV H11 v0 (stepM all (eW W) (lastP W) s i false) ∧ SV H11 v1 (stepM all (eW W) (lastP W) s i true)) (kvs ++ [(sk s, .ref E2)]) (hs.take (j + 1)) := by
          rw [take_snoc es]
          refine Paired.snocP (Paired.mapP hPd10 fun p s q => let ⟨e, b, v0, v1, n, e2, h, a, c⟩ := q; ⟨e, b, v0, v1, n, e2, lst11 _ _ h, a.kt kt11, c.kt kt11⟩) ⟨rfl, E2, v0, v1, nElv, rfl, hE11, sv0.kt kt11, sv1.kt kt11⟩
        have sv0' := sv0.kt kt11
        have sv1' := sv1.kt kt11
        -- for one in both
        generalize ho0 : stepM all (eW W) (lastP W) s i false = o0 at *
        generalize ho1 : stepM all (eW W) (lastP W) s i true = o1 at *
        have hl0 := len_addS hs' o0
        have hl1 := len_addS (addS hs' o0) o1
        have hjs : 2 * j ≤ 8192 := by omega
        refine ⟨_, rfl, E2, rfl, ⟨_, SqL.of hE11⟩, for_list (K := K) (a := E2) (xs := [v0, v1]) (fun jj σ H12 => ∃ v11, σ = [some (.ref wb), some (.ref p), some v, some (.ref hr'), some (.ref lv), some (.int i), some (.ref la), some (.ref Ld), some (.ref La), some (.ref ya), some (.ref E2), v11, v12] ∧ Same H6 H12 ∧ KT H11 H12 ∧ (∀ b xs, H11 b = some (.lst xs) → H12 b = some (.lst xs)) ∧ H12 Ld = some (.dT (kvs ++ [(sk s, .ref E2)])) ∧
            ∃ L, H12 La = some (.dT (Lk L)) ∧ (jj = 0 → L = hs') ∧ (jj = 1 → L = addS hs' o0) ∧ (jj = 2 → L = addS (addS hs' o0) o1))
          ⟨_, rfl, s611, KT.refl _, fun b xs e => e, hLd11, hs', hLa11, fun _ => rfl, fun z => (nomatch z), fun z => (nomatch z)⟩ (fun jj σ H12 _ ⟨_, _, _, _, z, _⟩ => SqL.of (z _ _ hE11)) ?_ ?_⟩
        · rintro jj z σ H12 hjj ⟨v11', rfl, s612, kt12, lst12, hLd12, L, hLa12, c0, c1, c2⟩
          obtain ⟨o, hz, hLl, d1, d2⟩ : ∃ o, SV H12 z o ∧ L.length ≤ hs'.length + 1 ∧ (jj + 1 = 1 → addS L o = addS hs' o0) ∧ (jj + 1 = 2 → addS L o = addS (addS hs' o0) o1) := by
            match jj, hjj, c0, c1 with
            | 0, hjj, c0, _ =>
              cases hjj
              have := c0 rfl
              subst this
              exact ⟨o0, sv0'.kt kt12, by omega, fun _ => rfl, fun z => (nomatch z)⟩
            | 1, hjj, _, c1 =>
              cases hjj
              have := c1 rfl
              subst this
              exact ⟨o1, sv1'.kt kt12, by omega, fun z => (nomatch z), fun _ => rfl⟩
          refine ⟨_, rfl, _, rfl, ?_⟩
          cases o with
          | none =>
            have hz : z = .non := hz
            subst hz
            exact iteF ⟨_, rfl, s612, kt12, lst12, hLd12, L, hLa12, fun z => (nomatch z), d1, d2⟩
          | some s1 =>
            refine iteY (by simp [hz.ne]) ?_
            obtain ⟨za, rfl, hza⟩ := hz
            refine ⟨_, rfl, _, rfl, La, _, rfl, DPut.t (k := sk s1) hLa12 (by rw [sk_val]; exact hza) (szl (by simp [Lk]; omega)), ?_⟩
            rw [Lk_put]
            refine ⟨_, rfl, s612.mut hLa6, kt12.trans (KT.mut hLa12 trivial), fun b xs e => ?_, by rw [upd_ne nLL]; exact hLd12, addS L (some s1), upd_same, fun z => (nomatch z), d1, d2⟩
            rw [upd_ne (ne_of (lst12 b xs e) hLa12 (by intro z; cases z))]
            exact lst12 b xs e
        · rintro σ H12 ⟨v11', rfl, s612, kt12, lst12, hLd12, L, hLa12, c0, c1, c2⟩
          have hL := c2 rfl
          subst hL
          refine ⟨_, _, _, _, kvs ++ [(sk s, .ref E2)], addS (addS hs' o0) o1, rfl, s612, hLd12, Paired.mapP hPd11 fun p s q => let ⟨e, b, v0, v1, n, e2, h, a, c⟩ := q; ⟨e, b, v0, v1, n, e2, lst12 _ _ h, a.kt kt12, c.kt kt12⟩, hLa12, nd_addS (nd_addS hnd' o0) o1, fun x hx => ?_, by omega, fun x hx b s' e => ?_⟩
          · rcases mem_addS.mp hx with hx | hx
            · rcases mem_addS.mp hx with hx | hx
              · exact hok' x hx
              · exact hsS.step hpts.2.1 hpts.2.2 (ho0.trans hx)
            · exact hsS.step hpts.2.1 hpts.2.2 (ho1.trans hx)
          · rw [take_snoc es] at hx
            rcases mem_last hx with hx | hx
            · exact mem_addS.mpr (.inl (mem_addS.mpr (.inl (hnx' x hx b s' e))))
            · subst hx
              cases b with
              | false => exact mem_addS.mpr (.inl (mem_addS.mpr (.inr (ho0.symm.trans e))))
              | true => exact mem_addS.mpr (.inr (ho1.symm.trans e))
      · rintro σ H8 ⟨v9, v10, v11, v12, kvs, hs', rfl, s68, hLd8, hPd, hLa8, hnd', hok', hln', hnx'⟩
        rw [hul5, List.take_length] at hPd hnx'
        rw [hul5] at hln'
        -- levels.append(level)
        have hlv8 := s68 _ _ hlv6
        refine ⟨_, rfl, .inl ⟨rfl, _, SqL.of hlv8⟩, _, rfl, lv, _, _, rfl, rfl, hlv8, szl (by simp [hdl]; omega), ?_⟩
        have nLdlv : Ld ≠ lv := fun z => by rw [z, hlv6] at hLd; cases hLd
        have nLalv : La ≠ lv := fun z => by rw [z, hlv6] at hLa6; cases hLa6
        have b89 : But lv H8 (upd H8 lv (.lst (ds.map V.ref ++ [.ref Ld]))) := fun b o e n => by rw [upd_ne n]; exact e
        have kt89 : KT H8 (upd H8 lv (.lst (ds.map V.ref ++ [.ref Ld]))) := KT.mut hlv8 trivial
        have hlv9 : (upd H8 lv (.lst (ds.map V.ref ++ [.ref Ld]))) lv = some (.lst (ds.map V.ref ++ [.ref Ld])) := upd_same
        generalize (upd H8 lv (.lst (ds.map V.ref ++ [.ref Ld]))) = H9 at b89 kt89 hlv9
        have hLa9 := b89 _ _ hLa8 nLalv
        have hLd9 := b89 _ _ hLd8 nLdlv
        -- here = list(later)
        refine ⟨_, rfl, La, _, rfl, .inl hLa9, fun hr2 bs hhr2 hks => ?_⟩
        have s910 := Same_new (o := .lst (bs.map V.ref)) hhr2
        have bt : But lv H4 (upd H9 hr2 (.lst (bs.map V.ref))) := fun b o e n => s910 _ _ (b89 _ _ (s68 _ _ (s56 _ _ (bt5 b o e n))) n)
        have nhr2 : hr2 ≠ lv := fun z => by rw [z, hlv9] at hhr2; cases hhr2
        refine ⟨_, _, _, _, _, _, _, _, hr2, ds ++ [Ld], HS ++ [hs'], hs', rfl, bt, by rw [s910 _ _ hlv9]; simp, by simp [hdl], fun d hd => ?_, HO.snoc hHS hnd' hok' hln' hnx', by rw [List.getElem?_append_right (by rw [HO.len]; omega), HO.len]; simp, nhr2, ⟨_, upd_same, ?_⟩, fun k d x ed ex => ?_⟩
        · rcases mem_last hd with z | z
          · exact hdsH d z
          · rw [z]; exact s06.free hLd
        · -- the new list of states
          have : ∀ (L : List St) (bs : List Addr), IsKeys H9 (Lk L) bs → ITs (upd H9 hr2 (.lst (bs.map V.ref))) (bs.map V.ref) (L.map stI) → True := fun _ _ _ _ => trivial
          have key : ∀ (H' : Hp), KT H9 H' → ∀ (L : List St) (bs : List Addr), IsKeys H9 (Lk L) bs → ITs H' (bs.map V.ref) (L.map stI) := fun H' kt => by
            intro L
            induction L with
            | nil => intro bs h; cases h; exact .nil
            | cons x L ih =>
              intro bs h
              cases h with
              | cons a t => exact .cons ⟨_, rfl, kt _ _ (by rw [← sk_val]; exact a)⟩ (ih _ t)
          exact key _ s910.kt hs' bs hks
        · have ktA : KT H5 (upd H9 hr2 (.lst (bs.map V.ref))) := ((s56.kt.trans s68.kt).trans kt89).trans s910.kt
          have btA : But lv H5 (upd H9 hr2 (.lst (bs.map V.ref))) := fun b o e n => s910 _ _ (b89 _ _ (s68 _ _ (s56 _ _ e)) n)
          by_cases hkd : k < ds.length
          · rw [List.getElem?_append_left hkd] at ed
            rw [List.getElem?_append_left (by rw [HO.len]; omega)] at ex
            exact (hLev k d x ed ex).keep btA ktA
          · have hk2 := (List.getElem?_eq_some_iff.mp ed).1
            rw [List.length_append, List.length_singleton] at hk2
            have : k = i := by omega
            subst this
            rw [List.getElem?_append_right (by omega), show k - ds.length = 0 by omega] at ed
            cases ed
            rw [List.getElem?_append_left (by rw [HO.len]; omega), hHS] at ex
            cases ex
            refine ⟨nLdlv, kvs, s910 _ _ hLd9, Paired.mapP hPd fun p s q => let ⟨e, b, v0, v1, n, e2, h, a, c⟩ := q; ⟨e, b, v0, v1, n, e2, s910 _ _ (b89 _ _ h n), a.kt (kt89.trans s910.kt), c.kt (kt89.trans s910.kt)⟩⟩
    · rintro σ H5 ⟨v5, v6, v7, v8, v9, v10, v11, v12, hr', ds, HS, hs, rfl, bt5, hlv5, hdl, hdsH, HO, hHS, nhr, hLh, hLev⟩
      rw [hul] at hdl HO hHS
      refine ⟨_, rfl, _, rfl, _, rfl, by show 3 ≤ sizeLine; decide, fun q2 hq2 => ?_⟩
      have s56 := Same_new (o := .tup [v, .ref lv, .ref hr']) hq2
      have kt45 : KT H4 H5 := fun c xs h => bt5 _ _ h (ne_of h hlv4' (by intro z; cases z))
      refine k q2 lv hr' v ds HS _ (fun b o e => s56 _ _ (bt5 _ _ (s04 _ _ e) (hHlv b o e))) upd_same (hv4.kt (kt45.trans s56.kt)) (s56 _ _ hlv5) hdl hdsH HO (fun kk d x ed ex => (hLev kk d x ed ex).keep s56.but s56.kt |>.at) fun x ex => ?_
      rw [hHS] at ex
      cases ex
      exact hLh.same s56
end Fw
end

section
set_option Elab.async false
set_option maxRecDepth 100000
set_option maxHeartbeats 4000000
set_option linter.all false
/-! D12: sieves grown. -/
namespace Fw
open PySem PySem.Spec PyProof.Rows L2
theorem walk_itemsT {d : Addr} {o : Obj} {kvs : List (List Key × V)} : Walk (ItiT d o kvs) kvs.length (fun H => H d = some (.frz o (.dT kvs)))
    (fun i H x H' => ∃ T k v q, kvs[i]? = some (k, v) ∧ x = V.ref T ∧ H T = Option.none ∧ H q = some (.tup (k.map kV)) ∧ H' = upd H T (.tup [.ref q, v])) :=
  ⟨fun _ _ hi q => ⟨q, hi⟩, fun _ q => ⟨q, Nat.le_refl _⟩, fun _ _ _ _ _ _ y => y⟩
theorem valV_mapS (f : St → V) {s : St} : ∀ {hs : List St}, s ∈ hs → valV (hs.map fun s => (sk s, f s)) (sk s) = some (f s)
  | [], h => nomatch h
  | x :: hs, h => by
    rw [List.map_cons]
    by_cases q : x = s
    · subst q; rw [valV_pos rfl]
    · rw [valV_neg (fun z => q (sk_inj z))]
      exact valV_mapS f ((List.mem_cons.mp h).resolve_left fun z => q z.symm)
/-- the states' numbers -/
def NumS (step : St → Nat → Bool → Option St) (n : Nat) (kvs : List (List Key × V)) (R : List Kn) (k : Nat) (hs : List St) : Prop :=
  ∀ s ∈ hs, ∃ y : Nat, valV kvs (sk s) = some (.int (y : Int)) ∧ y < R.length + 2 ∧ setsAt R y = lang step goodM (some s) k (n - k) ∧ k ≤ tieAt n R y
theorem NumS.opt {step : St → Nat → Bool → Option St} {n : Nat} {kvs : List (List Key × V)} {R : List Kn} {k : Nat} {hs : List St} (h : NumS step n kvs R k hs) (hk : k ≤ n) (o : Option St) (ho : ∀ s, o = some s → s ∈ hs) :
    ∃ y : Nat, (o = Option.none → y = 0) ∧ (∀ s, o = some s → valV kvs (sk s) = some (.int (y : Int))) ∧ y < R.length + 2 ∧ setsAt R y = lang step goodM o k (n - k) ∧ k ≤ tieAt n R y := by
  cases o with
  | none => exact ⟨0, fun _ => rfl, fun s e => (nomatch e), by omega, by rw [setsAt_zero, lang_none], by unfold tieAt; rw [if_pos (by decide)]; exact hk⟩
  | some s =>
    obtain ⟨y, a, b, c, d⟩ := h s (ho s rfl)
    exact ⟨y, fun e => (nomatch e), fun s' e => by cases e; exact a, b, c, d⟩
theorem num_step {step : St → Nat → Bool → Option St} {n : Nat} {R : List Kn} (V : Valid n R) {k y0 y1 : Nat} {s : St} (hk : k < n) (h0 : y0 < R.length + 2) (h1 : y1 < R.length + 2) (e0 : setsAt R y0 = lang step goodM (step s k false) (k + 1) (n - (k + 1))) (e1 : setsAt R y1 = lang step goodM (step s k true) (k + 1) (n - (k + 1)))
    (t0 : k + 1 ≤ tieAt n R y0) (t1 : k + 1 ≤ tieAt n R y1) : Valid n (R ++ [(k, y0, y1)]) ∧ setsAt (R ++ [(k, y0, y1)]) (R.length + 2) = lang step goodM (some s) k (n - k) ∧ k ≤ tieAt n (R ++ [(k, y0, y1)]) (R.length + 2) := by
  have hl : (R ++ [(k, y0, y1)])[R.length]? = some (k, y0, y1) := by simp
  refine ⟨V.snoc hk h0 h1 (by show k < tieAt n R y0; omega) (by show k < tieAt n R y1; omega), ?_, ?_⟩
  · rw [setsAt_new, show n - k = (n - (k + 1)) + 1 by omega]
    show setsAt R y0 ++ (setsAt R y1).map (k :: ·) = _
    rw [e0, e1]; rfl
  · rw [tieAt_row hl]; exact Nat.le_refl _
theorem ok_grown {P : Program} {w : World} {K : PySem.W.Frag} {mg : Str → Option Value} {base : Heap} {A : Ad} (T : Txt K mg A) : FnOk P w K mg base CX0 6 A.f_grown A.d_grown ["web", "rule"] (sp_grown A) := by
  have G_R_look : ∀ all : Bool, FnOk P w K mg base CX0 1 A.f_Rule_look A.d_Rule_look ["self", "web"] (sp_Rule_look) := fun all => ok_Rule_look T
  have G_levels_of : FnOk P w K mg base CX0 4 A.f_levels_of A.d_levels_of ["web", "rule"] (sp_levels_of A) := ok_levels_of T
  have G_R_good : ∀ all : Bool, FnOk P w K mg base CX0 1 A.f_Rings_good A.d_Rings_good ["self", "web", "state"] (sp_Rings_good) := fun all => ok_Rings_good T
  have G_number_of_state : FnOk P w K mg base CX0 1 A.f_number_of_state A.d_number_of_state ["state", "numbers"] (sp_number_of_state) := ok_number_of_state T
  have G_least_sieve : FnOk P w K mg base CX0 5 A.f_least_sieve A.d_least_sieve ["n", "rows", "top"] (sp_least_sieve A) := ok_least_sieve T
  refine T.F_grown.ok sc_grown (fun vs H Q E h => ?_) (fun cdv A' outer s H vs Q E hr h => ?_)
  · obtain ⟨all, p, wb, m, W, rfl, _⟩ := h
    rfl
  · obtain ⟨all, p, wb, m, W, rfl, hr1, hW, hR, k⟩ := h
    have hu := hu_of hr
    refine ⟨_, (pss_cons (ps_expr (pe_meth (pv 1) (T.cl_R all) (T.m_R_look all) (G_R_look all) (hr.mono (by decide)) T.b_Rule_look .nil pass0 (pa_cons (pv 0) pa_nil)))
(pss_cons (ps_asg (pe_call G_levels_of (hr.mono (by decide)) (by rfl) T.g_levels_of T.F_levels_of.kp T.b_levels_of .nil pass0 (pa_cons (pv 0) (pa_cons (pv 1) pa_nil))) (pgt (K := K) (n := 3) rfl (pgs_cons (pg_name (i := 2) sc_grown.nd rfl (by first | exact Or.inl rfl | exact Or.inr rfl)) (pgs_cons (pg_name (i := 3) sc_grown.nd rfl (by first | exact Or.inl rfl | exact Or.inr rfl)) (pgs_cons (pg_name (i := 4) sc_grown.nd rfl (by first | exact Or.inl rfl | exact Or.inr rfl)) pgs_nil)))))
(pss_cons (ps_set (i := 5) sc_grown.nd rfl (by first | exact Or.inl rfl | exact Or.inr rfl) pe_dnewT)
(pss_cons (ps_for PassesOwn.never rfl (pil (K := K) (pv 4)) (pg_name (i := 6) sc_grown.nd rfl (by first | exact Or.inl rfl | exact Or.inr rfl))
(pss_one (ps_dput hu (pv 5) (pv 6) (pe_callTy call_int1 (by rfl) T.z_int (by decide +kernel) (pa_cons (pe_meth (pv 1) (T.cl_R all) (T.m_R_good all) (G_R_good all) (hr.mono (by decide)) T.b_Rings_good .nil pass0 (pa_cons (pv 0) (pa_cons (pv 6) pa_nil))) pa_nil)) rfl)))
(pss_cons (ps_set (i := 7) sc_grown.nd rfl (by first | exact Or.inl rfl | exact Or.inr rfl) (pe_lst pa_nil))
(pss_cons (ps_for PassesOwn.never rfl (pi_range3 (by rfl) T.z_range (pa_cons (pe_op op_sub (pe_callB (lens (K := K)) (by rfl) T.z_len (by decide +kernel) (pa_cons (pv 3) pa_nil)) pe_int) (pa_cons (pe_un un_neg pe_int) (pa_cons (pe_un un_neg pe_int) pa_nil)))) (pg_name (i := 8) sc_grown.nd rfl (by first | exact Or.inl rfl | exact Or.inr rfl))
(pss_cons (ps_set (i := 9) sc_grown.nd rfl (by first | exact Or.inl rfl | exact Or.inr rfl) pe_dnewT)
(pss_cons (ps_lock (ps_for PassesOwn.never rfl (pi_itemsT (pe_ix (ixl (K := K)) (pv 3) (pv 8) (fun _ _ => rfl))) (pgt (K := K) (n := 2) rfl (pgs_cons (pg_name (i := 6) sc_grown.nd rfl (by first | exact Or.inl rfl | exact Or.inr rfl)) (pgs_cons (pg_name (i := 10) sc_grown.nd rfl (by first | exact Or.inl rfl | exact Or.inr rfl)) pgs_nil)))
(pss_cons (ps_expr (pe_bm PySem.F.plainAttrs_list PySem.F.slot_list_append PySem.F.type_list_append mt_append (pv 7) (pa_cons (pe_tup (pa_cons (pv 8) (pa_cons (pe_call G_number_of_state (hr.mono (by decide)) (by rfl) T.g_number_of_state T.F_number_of_state.kp T.b_number_of_state .nil pass0 (pa_cons (pe_ix (ixl (K := K)) (pv 10) pe_int (fun _ _ => rfl)) (pa_cons (pv 5) pa_nil))) (pa_cons (pe_call G_number_of_state (hr.mono (by decide)) (by rfl) T.g_number_of_state T.F_number_of_state.kp T.b_number_of_state .nil pass0 (pa_cons (pe_ix (ixl (K := K)) (pv 10) pe_int (fun _ _ => rfl)) (pa_cons (pv 5) pa_nil))) pa_nil)))) pa_nil)))
(pss_one (ps_dput hu (pv 9) (pv 6) (pe_op op_add (pe_callB (lens (K := K)) (by rfl) T.z_len (by decide +kernel) (pa_cons (pv 7) pa_nil)) pe_int) rfl)))))
(pss_one (ps_set (i := 5) sc_grown.nd rfl (by first | exact Or.inl rfl | exact Or.inr rfl) (pv 9))))))
(pss_one (ps_ret (pe_call G_least_sieve (hr.mono (by decide)) (by rfl) T.g_least_sieve T.F_least_sieve.kp T.b_least_sieve .nil pass0 (pa_cons (pe_callB (lens (K := K)) (by rfl) T.z_len (by decide +kernel) (pa_cons (pv 3) pa_nil)) (pa_cons (pv 7) (pa_cons (pe_call G_number_of_state (hr.mono (by decide)) (by rfl) T.g_number_of_state T.F_number_of_state.kp T.b_number_of_state .nil pass0 (pa_cons (pv 2) (pa_cons (pv 5) pa_nil))) pa_nil)))))))))))), ?_⟩
    have hn12 := hR.len
    obtain ⟨dx, hp⟩ := id hr1
    refine ⟨_, rfl, p, dx, _, rfl, hp, rfl, _, rfl, .ref p, .ref wb, rfl, ?_⟩
    refine ⟨_, rfl, _, rfl, all, p, wb, m, W, rfl, hr1, hW, hR, fun q lv hr' v ds HS H1 s1 hq hv hlv hdl hdsH HO hLev hhr => ?_⟩
    refine ⟨q, _, rfl, SqT.of hq, rfl, _, _, rfl, _, _, rfl, _, _, rfl, rfl, ?_⟩
    generalize hstart : openedM all m (loneP m W) = start at *
    generalize hn : W.length = n at *
    have hHS : ∀ i, i ≤ n → ∃ hs, HS[i]? = some hs := fun i hi => ⟨HS[i]'(by rw [HO.len]; omega), List.getElem?_eq_getElem _⟩
    -- numbers = {}
    intro nd hnd
    have s12 := Same_new (o := .dT []) hnd
    have hnd2 : (upd H1 nd (.dT [])) nd = some (.dT []) := upd_same
    generalize (upd H1 nd (.dT [])) = H2 at s12 hnd2
    obtain ⟨hsn, ehsn⟩ := hHS n (Nat.le_refl n)
    obtain ⟨un, hun, hIn⟩ := hhr hsn ehsn
    have hunl : un.length = hsn.length := by rw [hIn.len, List.length_map]
    have hsnnd := HO.nd hsn (List.mem_of_getElem? ehsn)
    have hsnl : hsn.length ≤ 4096 := Nat.le_trans (HO.small n hsn ehsn) (Nat.le_trans (Nat.pow_le_pow_right (by decide) hn12) (by decide))
    -- for state in last
    refine ⟨_, rfl, hr', rfl, ⟨_, SqL.of (s12 _ _ hun)⟩, for_list (K := K) (a := hr') (xs := un) (fun j σ H3 => ∃ v6 v7 v8 v9 v10, σ = [some (.ref wb), some (.ref p), some v, some (.ref lv), some (.ref hr'), some (.ref nd), v6, v7, v8, v9, v10] ∧ Same H1 H3 ∧ H3 nd = some (.dT ((hsn.take j).map fun s => (sk s, V.int (bI s.closed)))))
      ⟨_, _, _, _, _, rfl, s12, hnd2⟩ (fun j σ H3 _ ⟨_, _, _, _, _, _, z, _⟩ => SqL.of (z _ _ hun)) ?_ ?_⟩
    · rintro j y σ H3 hj ⟨v6, v7, v8, v9, v10, rfl, s13, hnd3⟩
      obtain ⟨ns, e3, hy⟩ := hIn.get hj
      have hjl : j < hsn.length := by have := (List.getElem?_eq_some_iff.mp hj).1; omega
      have es : hsn[j]? = some hsn[j] := List.getElem?_eq_getElem hjl
      generalize hsn[j] = s at es
      rw [List.getElem?_map, es] at e3
      cases e3
      have hy3 := hy.kt s13.kt
      obtain ⟨dx3, hp3⟩ := (hr1.same s1).same s13
      obtain ⟨ya, rfl, hya⟩ := id hy3
      refine ⟨_, rfl, p, dx3, _, rfl, hp3, rfl, _, rfl, _, rfl, .ref p, .ref wb, .ref ya, s, rfl, hy3, .inr ⟨_, rfl, ?_⟩⟩
      have hnone : valV ((hsn.take j).map fun s => (sk s, V.int (bI s.closed))) (sk s) = Option.none := by
        refine valV_none ?_
        rw [List.map_map]
        intro z
        obtain ⟨s', hs', e⟩ := List.mem_map.mp z
        have := sk_inj e
        subst this
        exact nd_take hsnnd es hs'
      refine ⟨_, rfl, _, rfl, nd, _, rfl, DPut.t (k := sk s) hnd3 (by rw [sk_val]; exact hya) (szl (by simp; omega)), ?_⟩
      refine ⟨_, _, _, _, _, rfl, s13.mut hnd, ?_⟩
      rw [upd_same, putK_new _ hnone, take_snoc es, List.map_append]
      rfl
    rintro σ H3 ⟨v6, v7, v8, v9, v10, rfl, s13, hnd3⟩
    rw [hunl, List.take_length] at hnd3
    -- rows = []
    refine ⟨Nat.zero_le _, fun rl hrl => ?_⟩
    have hrl1 := s13.free hrl
    have s34 := Same_new (o := .lst []) hrl
    have hrl4 : LL (upd H3 rl (.lst [])) rl [] := ⟨[], upd_same, .nil⟩
    have hnd4 := s34 _ _ hnd3
    have s14 := s13.trans s34
    generalize (upd H3 rl (.lst [])) = H4 at s34 hrl4 hnd4 s14
    -- for k in range(len(levels) - 1, -1, -1)
    have hdm : (ds.map V.ref).length = n := by rw [List.length_map, hdl]
    refine ⟨_, rfl, lv, _, rfl, .inl (SqL.of (s14 _ _ hlv)), _, _, rfl, rfl, _, rfl, _, rfl, (((ds.map V.ref).length : Nat) : Int) - 1, -1, -1, ((((ds.map V.ref).length : Nat) : Int) - 1 - (-1)).toNat, rfl, RgC.neg (by omega) (by omega) (by omega) (by omega), ?_⟩
    have ecount : ((((ds.map V.ref).length : Nat) : Int) - 1 - (-1)).toNat = n := by omega
    rw [ecount, hdm]
    have hdmem : ∀ kk d, ds[kk]? = some d → H1 d ≠ Option.none := fun kk d e z => by
      have hkl : kk < n := by have := (List.getElem?_eq_some_iff.mp e).1; omega
      obtain ⟨hs, ehs⟩ := hHS kk (by omega)
      obtain ⟨kvs, a, _⟩ := hLev kk d hs e ehs
      rw [z] at a; cases a
    refine for_rangeC (lo := (n : Int) - 1) (c := -1) (n := n) (fun i σ H5 => ∃ v6 v8 v9 v10 ndi kvs R hs, σ = [some (.ref wb), some (.ref p), some v, some (.ref lv), some (.ref hr'), some (.ref ndi), v6, some (.ref rl), v8, v9, v10] ∧ Same H1 H5 ∧ H1 ndi = Option.none ∧ H5 ndi = some (.dT kvs) ∧ LL H5 rl (R.map kI) ∧ Valid n R ∧ R.length + 2 ^ (n - i) ≤ 2 ^ n ∧ HS[n - i]? = some hs ∧ NumS (stepM all (eW W) (lastP W)) n kvs R (n - i) hs)
      ⟨_, _, _, _, nd, _, [], hsn, rfl, s14, hnd, hnd4, hrl4, Valid.nil n, ?_, by rw [Nat.sub_zero]; exact ehsn, ?_⟩ ?_ ?_
    · rw [List.length_nil, Nat.zero_add, Nat.sub_zero]; exact Nat.le_refl _
    · rw [Nat.sub_zero]
      intro s hs
      refine ⟨if s.closed then 1 else 0, ?_, ?_, ?_, ?_⟩
      · rw [valV_mapS (fun s => V.int (bI s.closed)) hs]
        cases s.closed <;> rfl
      · cases s.closed <;> decide
      · rw [Nat.sub_self]
        show _ = if goodM s then [[]] else []
        unfold goodM
        cases s.closed <;> rfl
      · cases s.closed <;> exact Nat.le_refl n
    · rintro i σ H5 hi ⟨v6, v8, v9, v10, ndi, kvs, R, hs, rfl, s15, hndi1, hndi5, hrl5, VR, hRl, ehs, hNum⟩
      have elo : ((n : Int) - 1) + (i : Nat) * (-1) = ((n - 1 - i : Nat) : Int) := by omega
      rw [elo]
      generalize hti : n - 1 - i = ti at *
      have hni : n - i = ti + 1 := by omega
      rw [hni] at hRl ehs hNum
      obtain ⟨hsk, ehsk⟩ := hHS ti (by omega)
      have ed : ds[ti]? = some (ds[ti]'(by omega)) := List.getElem?_eq_getElem _
      generalize ds[ti]'(by omega) = d at ed
      obtain ⟨kvL, hd1, hPL⟩ := hLev ti d hsk ed ehsk
      have hskl := HO.small ti hsk ehsk
      have hsknd := HO.nd hsk (List.mem_of_getElem? ehsk)
      have hp2 : 2 ^ (ti + 1) = 2 ^ ti * 2 := Nat.pow_succ ..
      have hp12 : 2 ^ n ≤ 4096 := Nat.le_trans (Nat.pow_le_pow_right (by decide) hn12) (by decide)
      have hkvl : kvL.length = hsk.length := Paired.length hPL
      -- here = {}
      intro hh hhh
      have s56 := Same_new (o := .dT []) hhh
      have hhh6 : (upd H5 hh (.dT [])) hh = some (.dT []) := upd_same
      have hhh1 := s15.free hhh
      have s16 := s15.trans s56
      have hndi6 := s56 _ _ hndi5
      have hrl6 := hrl5.same s56
      have nnh : ndi ≠ hh := ne_of_none hndi5 hhh
      generalize (upd H5 hh (.dT [])) = H6 at s56 hhh6 s16 hndi6 hrl6
      -- the level, locked
      have hd6 := s16 _ _ hd1
      have ndd : ndi ≠ d := fun z => hdmem ti d ed (z ▸ hndi1)
      have nhd : hh ≠ d := fun z => hdmem ti d ed (z ▸ hhh1)
      refine ⟨d, .dT kvL, hd6, trivial, fun od => ?_⟩
      have hlv6 : (upd H6 d (.frz od (.dT kvL))) lv = some (.lst (ds.map V.ref)) := by
        rw [upd_ne (ne_of (s16 _ _ hlv) hd6 (by intro z; cases z))]; exact s16 _ _ hlv
      have edm : (ds.map V.ref)[ti]? = some (.ref d) := by rw [List.getElem?_map, ed]; rfl
      refine ⟨_, rfl, _, rfl, lv, _, _, _, rfl, rfl, SqL.of hlv6, atI_nat edm, d, od, kvL, rfl, upd_same, ?_⟩
      obtain ⟨ur, hur, hIr⟩ := hrl6
      have nrd : rl ≠ d := ne_of hur hd6 (by intro z; cases z)
      have nrh : rl ≠ hh := ne_of hur hhh6 (by intro z; cases z)
      have nrn : rl ≠ ndi := ne_of hur hndi6 (by intro z; cases z)
      refine for_it (walk_itemsT (d := d) (o := od) (kvs := kvL)) (fun j σ H7 => ∃ v6 v10 R' kvh, σ = [some (.ref wb), some (.ref p), some v, some (.ref lv), some (.ref hr'), some (.ref ndi), v6, some (.ref rl), some (.int (ti : Nat)), some (.ref hh), v10] ∧ But d H1 H7 ∧ H7 d = some (.frz od (.dT kvL)) ∧ H7 ndi = some (.dT kvs) ∧ H7 hh = some (.dT kvh) ∧ LL H7 rl (R'.map kI) ∧ Valid n R' ∧ (∃ more, R' = R ++ more ∧ more.length = j) ∧ kvh.length ≤ j ∧ NumS (stepM all (eW W) (lastP W)) n kvh R' ti (hsk.take j))
        ⟨_, _, R, [], rfl, fun b o e n => by rw [upd_ne n]; exact s16 _ _ e, upd_same, by rw [upd_ne ndd]; exact hndi6, by rw [upd_ne nhd]; exact hhh6, ⟨ur, by rw [upd_ne nrd]; exact hur, hIr.kt (KT.mut hd6 trivial)⟩, VR, ⟨[], by simp, rfl⟩, Nat.le_refl _, fun s hs => by simp at hs⟩ (fun j σ H7 _ ⟨_, _, _, _, _, _, z, _⟩ => z) ?_ ?_
      · rintro j y σ H7 H8 hj ⟨v6, v10, R', kvh, rfl, b17, hd7, hndi7, hhh7, ⟨us, hrl7, hI7⟩, VR', ⟨more, hmore, hml⟩, hkh, hNh⟩ ⟨tt, key, val, qk, ekv, rfl, htt, hqk, rfl⟩
        have hjl : j < hsk.length := by omega
        obtain ⟨s, es, hkey, b, v0, v1, hval, hb, sv0, sv1⟩ := paired_get hPL ekv
        have hkey : key = sk s := hkey
        have hval : val = .ref b := hval
        subst hkey hval
        have hsm := List.mem_of_getElem? es
        have kt17 : KT H1 H7 := fun c xs h => b17 _ _ h (ne_of h hd1 (by intro z; cases z))
        have nbd : b ≠ d := ne_of hb hd1 (by intro z; cases z)
        refine ⟨tt, _, rfl, SqT.of upd_same, rfl, _, _, rfl, _, _, rfl, rfl, ?_⟩
        have s78 := Same_new (o := .tup [.ref qk, .ref b]) htt
        generalize (upd H7 tt (.tup [.ref qk, .ref b])) = H8 at s78
        have hd8 := s78 _ _ hd7
        have hndi8 := s78 _ _ hndi7
        have hhh8 := s78 _ _ hhh7
        have hrl8 := s78 _ _ hrl7
        have hb8 := s78 _ _ (b17 _ _ hb nbd)
        have b18 : But d H1 H8 := b17.trans s78
        have kt18 := kt17.trans s78.kt
        have hRl' : R'.length ≤ 8192 := by rw [hmore, List.length_append]; omega
        have hul : us.length = R'.length := by rw [hI7.len, List.length_map]
        have hNum' : NumS (stepM all (eW W) (lastP W)) n kvs R' (ti + 1) hs := fun s' hs' => by
          obtain ⟨y, a, b, c, e⟩ := hNum s' hs'
          refine ⟨y, a, ?_, ?_, ?_⟩
          · rw [hmore, List.length_append]; omega
          · rw [hmore, setsAt_pre _ _ b]; exact c
          · rw [hmore, tieAt_pre _ _ b]; exact e
        have hnx := HO.next ti hsk hs ehsk ehs s hsm
        obtain ⟨y0, p1, p2, p3, p4, p5⟩ := hNum'.opt (by omega) (stepM all (eW W) (lastP W) s ti false) fun s' e => hnx false s' e
        obtain ⟨y1, q1, q2, q3, q4, q5⟩ := hNum'.opt (by omega) (stepM all (eW W) (lastP W) s ti true) fun s' e => hnx true s' e
        -- rows.append((k, .., ..))
        refine ⟨_, rfl, .inl ⟨rfl, _, SqL.of hrl8⟩, _, rfl, ?_⟩
        refine ⟨_, rfl, b, _, _, _, rfl, rfl, SqL.of hb8, atI_nat (j := 0) rfl, _, rfl, v0, _, ndi, kvs, y0, rfl, sv0.kt kt18, hndi8, p1, p2, ?_⟩
        refine ⟨_, rfl, b, _, _, _, rfl, rfl, SqL.of hb8, atI_nat (j := 1) rfl, _, rfl, v1, _, ndi, kvs, y1, rfl, sv1.kt kt18, hndi8, q1, q2, ?_⟩
        refine ⟨by show 3 ≤ sizeLine; decide, fun tq htq => ?_⟩
        have s89 := Same_new (o := .tup [.int (ti : Nat), .int y0, .int y1]) htq
        have htq9 : (upd H8 tq (.tup [.int (ti : Nat), .int y0, .int y1])) tq = some (.tup ((kI (ti, y0, y1)).map V.int)) := upd_same
        generalize (upd H8 tq (.tup [.int (ti : Nat), .int y0, .int y1])) = H9 at s89 htq9
        refine ⟨rl, us, _, rfl, rfl, s89 _ _ hrl8, szl (by omega), ?_⟩
        have hrl10 : (upd H9 rl (.lst (us ++ [.ref tq]))) rl = some (.lst (us ++ [.ref tq])) := upd_same
        have kt910 : KT H9 (upd H9 rl (.lst (us ++ [.ref tq]))) := KT.mut (s89 _ _ hrl8) trivial
        have b110 : But d H1 (upd H9 rl (.lst (us ++ [.ref tq]))) := (b18.trans s89).mut hrl1
        have hd10 : (upd H9 rl (.lst (us ++ [.ref tq]))) d = some (.frz od (.dT kvL)) := by rw [upd_ne nrd.symm]; exact s89 _ _ hd8
        have hndi10 : (upd H9 rl (.lst (us ++ [.ref tq]))) ndi = some (.dT kvs) := by rw [upd_ne nrn.symm]; exact s89 _ _ hndi8
        have hhh10 : (upd H9 rl (.lst (us ++ [.ref tq]))) hh = some (.dT kvh) := by rw [upd_ne nrh.symm]; exact s89 _ _ hhh8
        generalize (upd H9 rl (.lst (us ++ [.ref tq]))) = H10 at hrl10 kt910 b110 hd10 hndi10 hhh10
        have kt710 := (s78.kt.trans s89.kt).trans kt910
        -- here[state] = len(rows) + 1
        refine ⟨_, rfl, rl, _, rfl, .inl (SqL.of hrl10), _, _, rfl, rfl, _, rfl, _, rfl, hh, _, rfl, DPut.t (k := sk s) hhh10 (kt710 _ _ hqk) (szl (by omega)), ?_⟩
        have elen : (((us ++ [V.ref tq]).length : Nat) : Int) + 1 = ((R'.length + 2 : Nat) : Int) := by rw [List.length_append, hul]; simp; omega
        have eput : putK kvh (sk s) (.int ((((us ++ [V.ref tq]).length : Nat) : Int) + 1)) = putK kvh (sk s) (.int ((R'.length + 2 : Nat) : Int)) := by rw [elen]
        obtain ⟨VR2, z1, z2⟩ := num_step (s := s) VR' (by omega) p3 q3 p4 q4 p5 q5
        refine ⟨_, _, R' ++ [(ti, y0, y1)], putK kvh (sk s) (.int ((R'.length + 2 : Nat) : Int)), rfl, b110.mut hhh1, by rw [upd_ne nhd.symm]; exact hd10, by rw [upd_ne nnh]; exact hndi10, by rw [upd_same]; exact congrArg (fun x => some (L2.HO.dT x)) eput, ⟨us ++ [.ref tq], by rw [upd_ne nrh]; exact hrl10, ?_⟩, VR2, ⟨more ++ [(ti, y0, y1)], by rw [hmore, List.append_assoc], by simp [hml]⟩, ?_, fun x hx => ?_⟩
        · have nt := KT.mut (o := .dT (putK kvh (sk s) (.int ((((us ++ [V.ref tq]).length : Nat) : Int) + 1)))) hhh10 trivial
          rw [List.map_append]
          exact (hI7.kt (kt710.trans nt)).snoc ⟨tq, rfl, (kt910.trans nt) _ _ htq9⟩
        · have := length_putK kvh (sk s) (V.int ((R'.length + 2 : Nat) : Int))
          omega
        · rw [take_snoc es] at hx
          by_cases e : x = s
          · subst e
            exact ⟨R'.length + 2, by rw [valV_put, if_pos rfl], by simp, z1, z2⟩
          · rcases mem_last hx with hx | hx
            · obtain ⟨y, c1, c2, c3, c4⟩ := hNh x hx
              exact ⟨y, by rw [valV_put, if_neg (fun z => e (sk_inj z))]; exact c1, by rw [List.length_append]; omega, by rw [setsAt_pre _ _ c2]; exact c3, by rw [tieAt_pre _ _ c2]; exact c4⟩
            · exact absurd hx e
      · rintro σ H7 ⟨v6, v10, R', kvh, rfl, b17, hd7, hndi7, hhh7, hrl7, VR', ⟨more, hmore, hml⟩, hkh, hNh⟩
        rw [hkvl] at hml
        rw [hkvl, List.take_length] at hNh
        refine ⟨hd7, _, rfl, ?_⟩
        have s18 : Same H1 (upd H7 d (.dT kvL)) := fun b o e => by
          by_cases z : b = d
          · subst z; rw [upd_same, ← hd1]; exact e
          · rw [upd_ne z]; exact b17 b o e z
        refine ⟨_, _, _, _, hh, kvh, R', hsk, rfl, s18, hhh1, by rw [upd_ne nhd]; exact hhh7, hrl7.kt (KT.mut hd7 trivial) (upd_ne nrd), VR', ?_, ?_, ?_⟩
        · rw [show n - (i + 1) = ti by omega, hmore, List.length_append, hml]; omega
        · rw [show n - (i + 1) = ti by omega]; exact ehsk
        · rw [show n - (i + 1) = ti by omega]; exact hNh
    · rintro σ H5 ⟨v6, v8, v9, v10, ndi, kvs, R, hs, rfl, s15, hndi1, hndi5, hrl5, VR, hRl, ehs, hNum⟩
      rw [Nat.sub_self] at hRl ehs hNum
      have e0 := HO.first hs ehs
      have hv5 := hv.kt s15.kt
      obtain ⟨y, p1, p2, p3, p4, p5⟩ := hNum.opt (Nat.zero_le n) start fun s e => by rw [e0, e]; exact List.mem_cons_self
      have hp12 : 2 ^ n ≤ 4096 := Nat.le_trans (Nat.pow_le_pow_right (by decide) hn12) (by decide)
      refine ⟨_, rfl, lv, _, rfl, .inl (SqL.of (s15 _ _ hlv)), _, rfl, _, rfl, _, rfl, v, start, ndi, kvs, y, rfl, hv5, hndi5, p1, p2, ?_⟩
      refine ⟨rl, n, y, R, by rw [hdm]; rfl, hrl5, VR, hn12, p3, by omega, fun pp R2 t2 H6 s6 hpp VR2 hR2 ht2 e2 fr => ?_⟩
      refine k pp R2 t2 H6 ((s1.trans s15).trans s6) hpp VR2 hR2 ht2 ?_ (fun H7 hn kt => fr H7 (fun b o h => hn b o ((s1.trans s15).free h)) kt)
      rw [e2, p4, Nat.sub_zero, ← hn, ← hstart]
end Fw
end

section
set_option Elab.async false
set_option maxRecDepth 100000
set_option maxHeartbeats 4000000
set_option linter.all false
/-! D13: the law's own webs. -/
namespace Fw
open PySem PySem.Spec PyProof.Rows L2
theorem fmod_nat (c : Int) {n : Nat} (h : 0 < n) : ∃ j : Nat, j < n ∧ c.fmod (n : Int) = (j : Int) := by
  rw [Int.fmod_eq_emod_of_nonneg c (by omega)]
  have h1 := Int.emod_nonneg c (show (n : Int) ≠ 0 by omega)
  have h2 := Int.emod_lt_of_pos c (show (0 : Int) < n by omega)
  exact ⟨(c % (n : Int)).toNat, by omega, by omega⟩
theorem ok_law_at {P : Program} {w : World} {K : PySem.W.Frag} {mg : Str → Option Value} {base : Heap} {A : Ad} (T : Txt K mg A) : FnOk P w K mg base CX0 1 A.f_law_at A.d_law_at ["_law_script", "_law_k"] (sp_law_at K) := by
  refine T.F_law_at.ok sc_law_at (fun vs H Q E h => ?_) (fun cdv A' outer s H vs Q E hr h => ?_)
  · obtain ⟨a, ns, kk, rfl, _⟩ := h
    rfl
  · obtain ⟨a, ns, kk, rfl, hS, k⟩ := h
    refine ⟨_, (pss_cons (ps_if (pt_cmpR op_lt (pv 1) (pe_callB (lens (K := K)) (by rfl) T.z_len (by decide +kernel) (pa_cons (pv 0) pa_nil)) (nomark _))
(pss_one (ps_ret (pe_ix (ixl (K := K)) (pv 0) (pv 1) (fun _ _ => rfl))))
pss_nil)
(pss_one (ps_ret pe_int))), ?_⟩
    refine ⟨_, rfl, _, rfl, a, _, rfl, .inl hS, _, _, rfl, rfl, _, rfl, ?_⟩
    rw [List.length_map]
    refine iteB (fun hc => ?_) (fun hc => ?_)
    · have hk : kk < ns.length := by have := of_decide_eq_true hc; omega
      refine ⟨_, rfl, _, rfl, a, _, _, _, rfl, rfl, hS, atInts (List.getElem?_eq_getElem hk), ?_⟩
      rw [List.getD_eq_getElem?_getD, List.getElem?_eq_getElem hk] at k
      exact k
    · have hk : ¬ kk < ns.length := by have := of_decide_eq_false hc; omega
      rw [List.getD_eq_getElem?_getD, List.getElem?_eq_none (by omega)] at k
      exact k
theorem ok_law_mixed {P : Program} {w : World} {K : PySem.W.Frag} {mg : Str → Option Value} {base : Heap} {A : Ad} (T : Txt K mg A) : FnOk P w K mg base CX0 1 A.f_law_mixed A.d_law_mixed ["_law_cell"] (sp_law_mixed) := by
  refine T.F_law_mixed.ok sc_law_mixed (fun vs H Q E h => ?_) (fun cdv A' outer s H vs Q E hr h => ?_)
  · obtain ⟨c, rfl, _⟩ := h
    rfl
  · obtain ⟨c, rfl, k⟩ := h
    refine ⟨_, (pss_cons (ps_set (i := 1) sc_law_mixed.nd rfl (by first | exact Or.inl rfl | exact Or.inr rfl) (pe_op op_modN (pe_op op_add (pe_op op_mul (pv 0) pe_int) pe_int) pe_int))
(pss_cons (ps_set (i := 2) sc_law_mixed.nd rfl (by first | exact Or.inl rfl | exact Or.inr rfl) (pe_op op_modN (pe_op op_mul (pv 1) (pv 1)) pe_int))
(pss_one (ps_ret (pe_op op_add (pe_op op_mul (pe_op op_add (pe_op op_mul (pv 1) pe_int) (pv 2)) pe_int) (pe_op op_modN (pe_op op_mul (pv 2) (pv 2)) pe_int)))))), ?_⟩
    obtain ⟨one, h1, e1⟩ := fmod_nat (c * 48271 + 12345) (n := 2147483647) (by decide)
    have e1 : (c * 48271 + 12345).fmod 2147483647 = (one : Int) := e1
    refine ⟨_, rfl, _, _, rfl, rfl, .inr ⟨by decide, by decide⟩, _, _, rfl, rfl, _, _, rfl, rfl, (by show (2147483647 : Int) ≠ 0; decide), ?_⟩
    obtain ⟨two, h2, e2⟩ := fmod_nat ((c * 48271 + 12345).fmod 2147483647 * (c * 48271 + 12345).fmod 2147483647) (n := 2147483629) (by decide)
    have e2 : ((c * 48271 + 12345).fmod 2147483647 * (c * 48271 + 12345).fmod 2147483647).fmod 2147483629 = (two : Int) := e2
    refine ⟨_, rfl, _, rfl, _, _, rfl, rfl, .inl ⟨by omega, by omega⟩, _, _, rfl, rfl, (by show (2147483629 : Int) ≠ 0; decide), ?_⟩
    refine ⟨_, rfl, _, _, rfl, rfl, .inr ⟨by decide, by decide⟩, _, rfl, _, _, rfl, rfl, _, _, rfl, rfl, .inr ⟨by decide, by decide⟩, _, rfl, _, rfl, _, _, rfl, rfl, .inl ⟨?_, ?_⟩, _, _, rfl, rfl, (by show (2147483587 : Int) ≠ 0; decide), _, _, rfl, rfl, ?_⟩
    · rw [e2]; omega
    · rw [e2]; omega
    · exact k _
theorem ok_law_bits {P : Program} {w : World} {K : PySem.W.Frag} {mg : Str → Option Value} {base : Heap} {A : Ad} (T : Txt K mg A) : FnOk P w K mg base CX0 1 A.f_law_bits A.d_law_bits ["_law_rows_here", "_law_cell"] (sp_law_bits) := by
  refine T.F_law_bits.ok sc_law_bits (fun vs H Q E h => ?_) (fun cdv A' outer s H vs Q E hr h => ?_)
  · obtain ⟨l, c, R, rfl, _⟩ := h
    rfl
  · obtain ⟨l, c, R, rfl, ⟨us, hl, hI⟩, hlen, k⟩ := h
    refine ⟨_, (pss_one (ps_ret (pe_callTy (tupof (K := K)) (by rfl) T.z_tuple (by decide +kernel) (pa_cons (pe_lc (own := [("_law_k", 2)]) rfl sc_law_bits.nd (pi_range1 (by rfl) T.z_range (pa_cons (pe_callB (lens (K := K)) (by rfl) T.z_len (by decide +kernel) (pa_cons (pv 0) pa_nil)) pa_nil)) (blkOk_by (N := ["_law_rows_here", "_law_cell", "_law_k"]) (sc := defScope s_law_bits) (by decide +kernel)) (fun _ _ _ _ _ => (pg_name (i := 2) sc_law_bits.nd rfl (by first | exact Or.inl rfl | exact Or.inr rfl))) (fun _ _ _ _ _ => (pts_one (pt_cmpR op_eq (pe_op op_and (pe_op op_shr (pv 1) (pv 2)) pe_int) pe_int (nomark _)))) (fun _ _ _ _ _ => (pv 2))) pa_nil)))), ?_⟩
    have hul : us.length = R.length := by rw [hI.len, List.length_map]
    refine ⟨_, rfl, l, us, rfl, .inl (SqL.of hl), _, rfl, by omega, by omega, fun D hD => ?_⟩
    rw [Int.toNat_natCast]
    refine lc_range (lo := 0) (n := us.length) (fun i H1 => Same H H1 ∧ ∃ S : List Nat, H1 D = some (.lst ((nI S).map V.int)) ∧ S.Pairwise (· < ·) ∧ S.length ≤ i ∧ ∀ x ∈ S, x < i) ⟨Same_new hD, [], upd_same, List.Pairwise.nil, Nat.le_refl _, fun x hx => nomatch hx⟩ ?_ ?_
    · rintro i H1 hi ⟨s1, S, hD1, hso, hSl, hb⟩
      rw [Int.zero_add]
      refine ⟨rfl, ?_⟩
      refine ⟨_, rfl, _, rfl, _, _, rfl, rfl, by omega, _, _, rfl, rfl, rfl, _, rfl, iteB (fun hc => ?_) (fun hc => ?_)⟩
      · refine ⟨_, rfl, _, hD1, szl (by rw [nI_len]; omega), s1.mut hD, S ++ [i], by rw [upd_same]; simp [nI], ?_, by simp; omega, fun x hx => ?_⟩
        · rw [List.pairwise_append]
          exact ⟨hso, List.pairwise_singleton _ _, fun a ha b hb2 => by rw [List.mem_singleton.mp hb2]; exact hb a ha⟩
        · rcases mem_last hx with z | z
          · have := hb x z; omega
          · omega
      · exact ⟨s1, S, hD1, hso, by omega, fun x hx => by have := hb x hx; omega⟩
    · rintro H1 ⟨s1, S, hD1, hso, hSl, hb⟩
      refine ⟨D, _, rfl, SqL.of hD1, fun q hq => ?_⟩
      exact k (.ref q) S _ (s1.newer hq) ⟨q, rfl, upd_same⟩ hso (fun x hx => by have := hb x hx; omega)
theorem ITs.erase {H : Hp} {vs : List V} {L : List (List Int)} (h : ITs H vs L) : ∀ j, ITs H (vs.eraseIdx j) (L.eraseIdx j) := by
  induction h with
  | nil => exact fun j => .nil
  | cons a t ih =>
    intro j
    cases j with
    | zero => exact t
    | succ j => exact .cons a (ih j)
theorem rI_inj {a b : Nat × Nat} (h : rI a = rI b) : a = b := by
  obtain ⟨a1, a2⟩ := a
  obtain ⟨b1, b2⟩ := b
  simp only [rI, List.cons.injEq, and_true] at h
  simp only [Prod.mk.injEq]
  omega
theorem place_of {L : List (Nat × Nat)} {r : Nat × Nat} (h : r ∈ L) : ∃ j, PySem.SeqAt.dataPlace ((L.map rI).map dT) (dT (rI r)) = some j ∧ L[j]? = some r := by
  unfold PySem.SeqAt.dataPlace
  cases e : ((L.map rI).map dT).findIdx? fun y => PyData.eqv y (dT (rI r)) with
  | none =>
    rw [List.findIdx?_eq_none_iff] at e
    have := e (dT (rI r)) (List.mem_map.mpr ⟨_, List.mem_map.mpr ⟨r, h, rfl⟩, rfl⟩)
    rw [eqvT] at this
    simp at this
  | some j =>
    obtain ⟨hj, hp, _⟩ := List.findIdx?_eq_some_iff_getElem.mp e
    refine ⟨j, rfl, ?_⟩
    rw [List.getElem_map, List.getElem_map, eqvT] at hp
    have := rI_inj (of_decide_eq_true hp)
    rw [List.length_map, List.length_map] at hj
    rw [List.getElem?_eq_getElem hj, this]
theorem srt_comm (a b : Nat) : srt (a, b) = srt (b, a) := by unfold srt; simp only [Prod.mk.injEq]; omega
/-- the law's rows, as they grow -/
structure RowsI (many : Nat) (L R : List (Nat × Nat)) : Prop where
  nd : L.Nodup
  lt : ∀ r ∈ L, r.2 < r.1 ∧ r.1 < many
  len : L.length ≤ 100
  pts : ∀ r ∈ R, r.1 ≠ r.2 ∧ r.1 < many ∧ r.2 < many
  ndR : (R.map srt).Nodup
  apart : ∀ r ∈ R, ∀ l ∈ L, srt r ≠ srt l
theorem RowsI.step {many : Nat} {L R : List (Nat × Nat)} (I : RowsI many L R) {j : Nat} {r x : Nat × Nat} (hj : L[j]? = some r) (hx : x = r ∨ x = (r.2, r.1)) : RowsI many (L.eraseIdx j) (R ++ [x]) := by
  have hr := List.mem_of_getElem? hj
  have h1 := I.lt r hr
  have hs : srt x = srt r := by
    rcases hx with rfl | rfl
    · rfl
    · exact srt_comm _ _
  have sub := List.eraseIdx_sublist L j
  refine ⟨sub.nodup I.nd, fun y hy => I.lt y (sub.subset hy), Nat.le_trans (List.length_eraseIdx_le _ _) I.len, fun y hy => ?_, ?_, fun y hy l hl => ?_⟩
  · rcases mem_last hy with z | z
    · exact I.pts y z
    · rw [z]
      rcases hx with rfl | rfl
      · exact ⟨by omega, h1.2, by omega⟩
      · exact ⟨by show r.2 ≠ r.1; omega, by show r.2 < many; omega, h1.2⟩
  · rw [List.map_append, List.nodup_append]
    refine ⟨I.ndR, by simp, ?_⟩
    intro a ha c hc
    rw [List.map_singleton, List.mem_singleton] at hc
    obtain ⟨y, hy, rfl⟩ := List.mem_map.mp ha
    rw [hc, hs]
    exact I.apart y hy r hr
  · rcases mem_last hy with z | z
    · exact I.apart y z l (sub.subset hl)
    · rw [z, hs]
      intro e
      obtain ⟨i, hi, hij, el⟩ := List.mem_eraseIdx_iff_getElem.mp hl
      have h2 := I.lt l (sub.subset hl)
      have : l = r := by
        obtain ⟨l1, l2⟩ := l
        obtain ⟨r1, r2⟩ := r
        simp only [srt, Prod.mk.injEq] at e h1 h2 ⊢
        omega
      rw [this] at el
      obtain ⟨hjl, ej⟩ := List.getElem?_eq_some_iff.mp hj
      exact hij ((List.getElem_inj I.nd).mp (el.trans ej.symm))
end Fw
end

section
set_option Elab.async false
set_option maxRecDepth 100000
set_option maxHeartbeats 4000000
set_option linter.all false
/-! D14: the law's rows. -/
namespace Fw
open PySem PySem.Spec PyProof.Rows L2
theorem erase_map {α β : Type} (f : α → β) : ∀ (l : List α) (j : Nat), (l.map f).eraseIdx j = (l.eraseIdx j).map f
  | [], j => by simp
  | a :: r, 0 => by simp
  | a :: r, j + 1 => by
    have ih := erase_map f r j
    simp [ih]
theorem RowsI.start {many : Nat} {L : List (Nat × Nat)} (nd : L.Nodup) (lt : ∀ r ∈ L, r.2 < r.1 ∧ r.1 < many) (len : L.length ≤ 100) : RowsI many L [] :=
  ⟨nd, lt, len, fun r h => (nomatch h), List.nodup_nil, fun r h => (nomatch h)⟩
theorem ok_law_rows {P : Program} {w : World} {K : PySem.W.Frag} {mg : Str → Option Value} {base : Heap} {A : Ad} (T : Txt K mg A) : FnOk P w K mg base CX0 2 A.f_law_rows A.d_law_rows ["_law_many", "_law_number"] (sp_law_rows) := by
  have G_law_mixed : FnOk P w K mg base CX0 1 A.f_law_mixed A.d_law_mixed ["_law_cell"] (sp_law_mixed) := ok_law_mixed T
  refine T.F_law_rows.ok sc_law_rows (fun vs H Q E h => ?_) (fun cdv A' outer s H vs Q E hr h => ?_)
  · obtain ⟨m, c, rfl, _⟩ := h
    rfl
  · obtain ⟨m, c, rfl, h1m, hm10, k⟩ := h
    refine ⟨_, (pss_cons (ps_set (i := 2) sc_law_rows.nd rfl (by first | exact Or.inl rfl | exact Or.inr rfl) (pe_lst pa_nil))
(pss_cons (ps_for PassesOwn.never rfl (pi_range1 (by rfl) T.z_range (pa_cons (pv 0) pa_nil)) (pg_name (i := 3) sc_law_rows.nd rfl (by first | exact Or.inl rfl | exact Or.inr rfl))
(pss_one (ps_expr (pe_bm PySem.F.plainAttrs_list PySem.F.slot_list_extend PySem.F.type_list_extend mt_extend (pv 2) (pa_cons (pe_lc (own := [("_law_other", 6)]) rfl sc_law_rows.nd (pi_range1 (by rfl) T.z_range (pa_cons (pv 3) pa_nil)) (blkOk_by (N := ["_law_many", "_law_number", "_law_pairs", "_law_one", "_law_wanted", "_law_rows_here", "_law_other"]) (sc := defScope s_law_rows) (by decide +kernel)) (fun _ _ _ _ _ => (pg_name (i := 6) sc_law_rows.nd rfl (by first | exact Or.inl rfl | exact Or.inr rfl))) (fun _ _ _ _ _ => pts_nil) (fun _ _ _ _ _ => (pe_tup (pa_cons (pv 3) (pa_cons (pv 6) pa_nil))))) pa_nil)))))
(pss_cons (ps_set (i := 4) sc_law_rows.nd rfl (by first | exact Or.inl rfl | exact Or.inr rfl) (pe_op op_modN (pv 1) pe_int))
(pss_cons (ps_set (i := 1) sc_law_rows.nd rfl (by first | exact Or.inl rfl | exact Or.inr rfl) (pe_op op_fdivN (pv 1) pe_int))
(pss_cons (ps_set (i := 5) sc_law_rows.nd rfl (by first | exact Or.inl rfl | exact Or.inr rfl) (pe_lst pa_nil))
(pss_cons (ps_while PassesOwn.never (pw_and (pt_cmpR op_lt (pe_callB (lens (K := K)) (by rfl) T.z_len (by decide +kernel) (pa_cons (pv 5) pa_nil)) (pv 4) (nomark _)) (pw_and1 (pt_cmpR (ned (K := K) hr.units) (pv 2) (pe_lst pa_nil) (nomark _)))).pt
(pss_cons (ps_if (pt_cmpR op_eq (pv 1) pe_int (nomark _))
(pss_one (ps_set (i := 1) sc_law_rows.nd rfl (by first | exact Or.inl rfl | exact Or.inr rfl) (pe_call G_law_mixed (hr.mono (by decide)) (by rfl) T.g_law_mixed T.F_law_mixed.kp T.b_law_mixed .nil pass0 (pa_cons (pe_op op_add (pv 0) (pe_op op_mul pe_int (pe_callB (lens (K := K)) (by rfl) T.z_len (by decide +kernel) (pa_cons (pv 5) pa_nil)))) pa_nil))))
pss_nil)
(pss_cons (ps_asg (pe_ix (ixl (K := K)) (pv 2) (pe_op op_modN (pv 1) (pe_callB (lens (K := K)) (by rfl) T.z_len (by decide +kernel) (pa_cons (pv 2) pa_nil))) (fun _ _ => rfl)) (pgt (K := K) (n := 2) rfl (pgs_cons (pg_name (i := 3) sc_law_rows.nd rfl (by first | exact Or.inl rfl | exact Or.inr rfl)) (pgs_cons (pg_name (i := 6) sc_law_rows.nd rfl (by first | exact Or.inl rfl | exact Or.inr rfl)) pgs_nil))))
(pss_cons (ps_set (i := 1) sc_law_rows.nd rfl (by first | exact Or.inl rfl | exact Or.inr rfl) (pe_op op_fdivN (pv 1) (pe_callB (lens (K := K)) (by rfl) T.z_len (by decide +kernel) (pa_cons (pv 2) pa_nil))))
(pss_cons (ps_expr (pe_bm PySem.F.plainAttrs_list PySem.F.slot_list_remove PySem.F.type_list_remove (mt_removeD hr.units) (pv 2) (pa_cons (pe_tup (pa_cons (pv 3) (pa_cons (pv 6) pa_nil))) pa_nil)))
(pss_cons (ps_expr (pe_bm PySem.F.plainAttrs_list PySem.F.slot_list_append PySem.F.type_list_append mt_append (pv 5) (pa_cons (pe_ix (ixl (K := K)) (pe_lst (pa_cons (pe_tup (pa_cons (pv 3) (pa_cons (pv 6) pa_nil))) (pa_cons (pe_tup (pa_cons (pv 6) (pa_cons (pv 3) pa_nil))) pa_nil))) (pe_op op_modN (pv 1) pe_int) (fun _ _ => rfl)) pa_nil)))
(pss_one (ps_set (i := 1) sc_law_rows.nd rfl (by first | exact Or.inl rfl | exact Or.inr rfl) (pe_op op_fdivN (pv 1) pe_int)))))))))
(pss_one (ps_ret (pv 5))))))))), ?_⟩
    refine ⟨Nat.zero_le _, fun P hP => ?_⟩
    refine ⟨_, rfl, _, rfl, by omega, by omega, ?_⟩
    rw [Int.toNat_natCast]
    refine for_range (lo := 0) (n := m) (fun i σ H1 => ∃ v3 v6 us L, σ = [some (.int m), some (.int c), some (.ref P), v3, Option.none, Option.none, v6] ∧ Same H H1 ∧ H1 P = some (.lst us) ∧ ITs H1 us (L.map rI) ∧ L.Nodup ∧ (∀ r ∈ L, r.2 < r.1 ∧ r.1 < i) ∧ L.length ≤ 10 * i)
      ⟨_, _, [], [], rfl, Same_new hP, upd_same, .nil, List.nodup_nil, fun r h => (nomatch h), Nat.le_refl _⟩ ?_ ?_
    · rintro i σ H1 hi ⟨v3, v6, us, L, rfl, s1, hP1, hI1, nd, lt, len⟩
      rw [Int.zero_add]
      refine ⟨_, rfl, .inl ⟨rfl, _, SqL.of hP1⟩, ?_⟩
      refine ⟨_, rfl, _, rfl, by omega, by omega, fun D hD => ?_⟩
      rw [Int.toNat_natCast]
      refine lc_range (lo := 0) (n := i) (fun j H2 => Same H1 H2 ∧ ∃ us2, H2 D = some (.lst us2) ∧ ITs H2 us2 (((List.range j).map fun o => (i, o)).map rI)) ⟨Same_new hD, [], upd_same, .nil⟩ ?_ ?_
      · rintro j H2 hj ⟨s2, us2, hD2, hI2⟩
        rw [Int.zero_add]
        refine ⟨rfl, yesIf ?_⟩
        refine ⟨_, rfl, _, rfl, by show 2 ≤ sizeLine; decide, fun t ht => ?_⟩
        have ht2 : (upd H2 t (.tup [.int i, .int j])) t = some (.tup ((rI (i, j)).map V.int)) := upd_same
        have s3 := Same_new (o := .tup [.int i, .int j]) ht
        have hl2 : us2.length = j := by rw [hI2.len]; simp
        generalize (upd H2 t (.tup [.int i, .int j])) = H3 at ht2 s3
        refine ⟨us2, s3 _ _ hD2, szl (by omega), (s2.trans s3).mut hD, us2 ++ [.ref t], upd_same, ?_⟩
        have kt := KT.mut (o := .lst (us2 ++ [.ref t])) (s3 _ _ hD2) trivial
        rw [List.range_succ, List.map_append, List.map_append]
        exact (hI2.kt (s3.kt.trans kt)).snoc ⟨t, rfl, kt _ _ ht2⟩
      · rintro H2 ⟨s2, us2, hD2, hI2⟩
        have hl2 : us2.length = i := by rw [hI2.len]; simp
        have hl1 : us.length = L.length := by rw [hI1.len, List.length_map]
        refine ⟨P, D, us, us2, rfl, rfl, s2 _ _ hP1, hD2, sz (by omega), ?_⟩
        have kt := KT.mut (o := .lst (us ++ us2)) (s2 _ _ hP1) trivial
        refine ⟨_, _, us ++ us2, L ++ (List.range i).map fun o => (i, o), rfl, (s1.trans s2).mut hP, upd_same, ?_, ?_, ?_, ?_⟩
        · rw [List.map_append]
          exact (hI1.kt (s2.kt.trans kt)).app (hI2.kt kt)
        · rw [List.nodup_append]
          refine ⟨nd, ?_, ?_⟩
          · rw [List.nodup_iff_pairwise_ne, List.pairwise_map]
            exact (List.nodup_iff_pairwise_ne.mp List.nodup_range).imp fun h z => h (Prod.mk.inj z).2
          · intro a ha b hb z
            obtain ⟨o, ho, rfl⟩ := List.mem_map.mp hb
            have := (lt a ha).2
            rw [z] at this
            exact absurd this (Nat.lt_irrefl _)
        · intro r hr
          rcases List.mem_append.mp hr with z | z
          · have := lt r z; omega
          · obtain ⟨o, ho, rfl⟩ := List.mem_map.mp z
            have := List.mem_range.mp ho
            exact ⟨this, Nat.lt_succ_self _⟩
        · rw [List.length_append, List.length_map, List.length_range]; omega
    · rintro σ H1 ⟨v3, v6, us, L, rfl, s1, hP1, hI1, nd, lt, len⟩
      obtain ⟨w, hw, ew⟩ := fmod_nat c (n := 13) (by decide)
      have ew : c.fmod 13 = (w : Int) := ew
      refine ⟨_, rfl, _, _, rfl, rfl, (by show (13 : Int) ≠ 0; decide), ?_⟩
      refine ⟨_, rfl, _, _, rfl, rfl, ⟨by decide, by decide⟩, ?_⟩
      refine ⟨Nat.zero_le _, fun Rr hRr => ?_⟩
      have nPR : P ≠ Rr := ne_of_none hP1 hRr
      have hRH := s1.free hRr
      refine while_by (fun σ H2 => ∃ num v3 v6 us L vs R, σ = [some (.int m), some (.int num), some (.ref P), v3, some (.int (c.fmod 13)), some (.ref Rr), v6] ∧ Same H H2 ∧ H2 P = some (.lst us) ∧ ITs H2 us (L.map rI) ∧ H2 Rr = some (.lst vs) ∧ ITs H2 vs (R.map rI) ∧ RowsI m L R ∧ R.length ≤ w) (fun _ H2 => 12 - lenAt H2 Rr)
        ⟨_, _, _, us, L, [], [], rfl, s1.newer hRr, by rw [upd_ne nPR]; exact hP1, hI1.kt (KT.new hRr), upd_same, .nil, RowsI.start nd lt (by omega), Nat.zero_le _⟩ ?_ ?_
      · rintro σ H2 ⟨num, v3, v6, us, L, vs, R, rfl, s2, hP2, hI2, hR2, hJ2, I, hRw⟩
        have hvl : vs.length = R.length := by rw [hJ2.len, List.length_map]
        have hul : us.length = L.length := by rw [hI2.len, List.length_map]
        refine ⟨_, rfl, Rr, _, rfl, .inl (SqL.of hR2), _, rfl, _, _, rfl, rfl, _, rfl, ?_⟩
        have done : ∀ H3, Same H2 H3 → H3 Rr = some (.lst vs) → ∀ Q : VK, (∀ (q : Addr) (R : List (Nat × Nat)) (H' : Hp), Same H H' → LL H' q (R.map rI) → GoodRows m R → Q (.ref q) H') → Q (.ref Rr) H3 := fun H3 s3 e Q k => by
          exact k Rr R H3 (s2.trans s3) ⟨vs, e, hJ2.kt s3.kt⟩ ⟨h1m, hm10, by omega, I.pts, I.ndR⟩
        refine iteB (fun hc => ?_) (fun hc => iteN rfl ⟨_, rfl, done _ (Same.refl _) hR2 _ k⟩)
        have hlt : R.length < w := by
          have h0 := of_decide_eq_true hc
          rw [ew] at h0
          omega
        refine ⟨_, rfl, Nat.zero_le _, fun p hp => ?_⟩
        have s3 := Same_new (o := .lst []) hp
        have hp3 : LL (upd H2 p (.lst [])) p [] := ⟨[], upd_same, .nil⟩
        have mu1 : 12 - lenAt H2 Rr = 12 - R.length := by unfold lenAt; rw [hR2]; simp [hvl]
        rw [mu1]
        generalize (upd H2 p (.lst [])) = H3 at s3 hp3
        have hP3 := s3 _ _ hP2
        have hR3 := s3 _ _ hR2
        have hI3 := hI2.kt s3.kt
        have hJ3 := hJ2.kt s3.kt
        have s03 := s2.trans s3
        refine ⟨_, _, (show LL H3 P (L.map rI) from ⟨us, hP3, hI3⟩).dp, hp3.dp, shL _, shL _, _, rfl, ?_⟩
        rw [eqvL]
        refine iteB (fun hc2 => ?_) (fun hc2 => ⟨_, rfl, done _ s3 hR3 _ k⟩)
        have hne : 0 < us.length := by
          rw [hul]
          cases L with
          | nil => simp at hc2
          | cons a L => simp
        have hcount : ((us.length : Nat) : Int) ≠ 0 := by omega
        refine ⟨_, rfl, rfl, _, rfl, ?_⟩
        refine iteB (fun hc => ?gA) (fun hc => ?gB)
        case' gA => refine ⟨_, rfl, _, rfl, Rr, _, rfl, .inl (SqL.of hR3), _, _, rfl, rfl, .inl ⟨by decide, by decide⟩, _, _, rfl, rfl, _, rfl, fun num => ?_⟩
        all_goals
          obtain ⟨j, hj, ej⟩ := fmod_nat num hne
          obtain ⟨y, ey⟩ : ∃ y, us[j]? = some y := ⟨_, List.getElem?_eq_getElem hj⟩
          obtain ⟨ns, e3, t, rfl, ht⟩ := hI3.get ey
          have hjl : j < L.length := by omega
          have er : L[j]? = some L[j] := List.getElem?_eq_getElem hjl
          generalize L[j] = r at er
          rw [List.getElem?_map, er] at e3
          cases e3
          have hrL := List.mem_of_getElem? er
          refine ⟨_, rfl, _, rfl, _, rfl, P, _, rfl, .inl (SqL.of hP3), _, _, rfl, rfl, hcount, P, us, _, _, rfl, rfl, SqL.of hP3, (by rw [ej]; exact atI_nat ey), ?_⟩
          refine ⟨t, _, rfl, SqT.of ht, rfl, _, _, rfl, _, _, rfl, rfl, ?_⟩
          have hul2 : us.length ≤ 100 := by have := I.len; omega
          obtain ⟨num2, en2⟩ : ∃ x : Int, x = num.fdiv (us.length : Int) := ⟨_, rfl⟩
          refine ⟨_, rfl, _, rfl, P, _, rfl, .inl (SqL.of hP3), _, _, rfl, rfl, ⟨hcount, by omega⟩, ?_⟩
          refine ⟨_, rfl, .inl ⟨rfl, _, SqL.of hP3⟩, _, rfl, _, rfl, by show 2 ≤ sizeLine; decide, fun q hq => ?_⟩
          have s4 := Same_new (o := .tup [.int r.1, .int r.2]) hq
          have hq4 : (upd H3 q (.tup [.int r.1, .int r.2])) q = some (.tup ((rI r).map V.int)) := upd_same
          generalize (upd H3 q (.tup [.int r.1, .int r.2])) = H4 at s4 hq4
          have hP4 := s4 _ _ hP3
          have hR4 := s4 _ _ hR3
          have hI4 := hI3.kt s4.kt
          have hJ4 := hJ3.kt s4.kt
          have s04 := s03.trans s4
          obtain ⟨g, eg, elg⟩ := place_of hrL
          refine ⟨P, us, .ref q, dT (rI r), (L.map rI).map dT, g, rfl, rfl, hP4, hI4.dp, IT.dp ⟨q, rfl, hq4⟩, plTs _, plT _, Nat.le_trans (depTs _) (by decide), eg, ?_⟩
          have kt := KT.mut (o := .lst (us.eraseIdx g)) hP4 trivial
          have s05 : Same H (upd H4 P (.lst (us.eraseIdx g))) := s04.mut hP
          have hP5 : (upd H4 P (.lst (us.eraseIdx g))) P = some (.lst (us.eraseIdx g)) := upd_same
          have hR5 : (upd H4 P (.lst (us.eraseIdx g))) Rr = some (.lst vs) := by rw [upd_ne nPR.symm]; exact hR4
          have hI5 := (hI4.erase g).kt kt
          rw [erase_map] at hI5
          have hJ5 := hJ4.kt kt
          generalize (upd H4 P (.lst (us.eraseIdx g))) = H5 at s05 hP5 hR5 hI5 hJ5
          refine ⟨_, rfl, .inl ⟨rfl, _, SqL.of hR5⟩, ?_⟩
          refine ⟨_, rfl, _, rfl, by show 2 ≤ sizeLine; decide, fun q1 hq1 => ⟨_, rfl, _, rfl, by show 2 ≤ sizeLine; decide, fun q2 hq2 => ⟨by show 2 ≤ sizeLine; decide, fun q3 hq3 => ?_⟩⟩⟩
          have t1 := Same_new (o := .tup [.int r.1, .int r.2]) hq1
          have hq1' : (upd H5 q1 (.tup [.int r.1, .int r.2])) q1 = some (.tup ((rI r).map V.int)) := upd_same
          generalize (upd H5 q1 (.tup [.int r.1, .int r.2])) = H6 at t1 hq1' hq2 hq3
          have t2 := Same_new (o := .tup [.int r.2, .int r.1]) hq2
          have hq2' : (upd H6 q2 (.tup [.int r.2, .int r.1])) q2 = some (.tup ((rI (r.2, r.1)).map V.int)) := upd_same
          generalize (upd H6 q2 (.tup [.int r.2, .int r.1])) = H7 at t2 hq2' hq3
          have t3 := Same_new (o := .lst [.ref q1, .ref q2]) hq3
          have hq3' : (upd H7 q3 (.lst [.ref q1, .ref q2])) q3 = some (.lst [.ref q1, .ref q2]) := upd_same
          generalize (upd H7 q3 (.lst [.ref q1, .ref q2])) = H8 at t3 hq3'
          have hx : ∃ (x : Nat × Nat) (z : Addr) , (x = r ∨ x = (r.2, r.1)) ∧ atI [V.ref q1, V.ref q2] ((num.fdiv (us.length : Int)).fmod 2) = some (V.ref z) ∧ H8 z = some (.tup ((rI x).map V.int)) := by
            obtain ⟨b, hb, eb⟩ := fmod_nat num2 (n := 2) (by decide)
            have eb : num2.fmod 2 = (b : Int) := eb
            rw [← en2, eb]
            rcases (show b = 0 ∨ b = 1 by omega) with rfl | rfl
            · exact ⟨r, q1, .inl rfl, atI_nat (j := 0) rfl, t3 _ _ (t2 _ _ hq1')⟩
            · exact ⟨(r.2, r.1), q2, .inr rfl, atI_nat (j := 1) rfl, t3 _ _ hq2'⟩
          obtain ⟨x, z, hx, hz, hz8⟩ := hx
          have s58 := (t1.trans t2).trans t3
          have hR8 := s58 _ _ hR5
          refine ⟨_, rfl, _, _, rfl, rfl, (by show (2 : Int) ≠ 0; decide), q3, _, _, _, rfl, rfl, SqL.of hq3', hz, Rr, vs, _, rfl, rfl, hR8, szl (by omega), ?_⟩
          have kt9 := KT.mut (o := .lst (vs ++ [.ref z])) hR8 trivial
          refine ⟨_, rfl, _, _, rfl, rfl, ⟨by decide, by decide⟩, ?_⟩
          refine ⟨⟨_, _, _, us.eraseIdx g, L.eraseIdx g, vs ++ [.ref z], R ++ [x], rfl, (s05.trans s58).mut hRH, by rw [upd_ne nPR]; exact s58 _ _ hP5, hI5.kt (s58.kt.trans kt9), upd_same, ?_, I.step elg hx, by simp; omega⟩, ?_⟩
          · rw [List.map_append]
            exact (hJ5.kt (s58.kt.trans kt9)).snoc ⟨z, rfl, kt9 _ _ hz8⟩
          · unfold lenAt; rw [upd_same]; simp [hvl]; omega
      · rintro σ H2 Q1 Q2 hq ⟨v5, e5, p, ys, a1, a2, v4, e4, i, j, b1, b2, cc, b3, g⟩
        refine ⟨v5, e5, p, ys, a1, a2, v4, e4, i, j, b1, b2, cc, b3, ?_⟩
        cases cc with
        | false => exact hq _ _ g
        | true =>
          obtain ⟨v, e, hz, g⟩ := g
          refine ⟨v, e, hz, fun p hp => ?_⟩
          obtain ⟨d1, d2, a1, a2, a3, a4, c, a5, a6⟩ := g p hp
          exact ⟨d1, d2, a1, a2, a3, a4, c, a5, hq _ _ a6⟩
theorem ok_law_web {P : Program} {w : World} {K : PySem.W.Frag} {mg : Str → Option Value} {base : Heap} {A : Ad} (T : Txt K mg A) : FnOk P w K mg base CX0 3 A.f_law_web A.d_law_web ["_law_cell"] (sp_law_web) := by
  have G_law_mixed : FnOk P w K mg base CX0 1 A.f_law_mixed A.d_law_mixed ["_law_cell"] (sp_law_mixed) := ok_law_mixed T
  have G_law_rows : FnOk P w K mg base CX0 2 A.f_law_rows A.d_law_rows ["_law_many", "_law_number"] (sp_law_rows) := ok_law_rows T
  refine T.F_law_web.ok sc_law_web (fun vs H Q E h => ?_) (fun cdv A' outer s H vs Q E hr h => ?_)
  · obtain ⟨c, rfl, _⟩ := h
    rfl
  · obtain ⟨c, rfl, k⟩ := h
    refine ⟨_, (pss_cons (ps_set (i := 1) sc_law_web.nd rfl (by first | exact Or.inl rfl | exact Or.inr rfl) (pe_op op_fdivN (pv 0) pe_int))
(pss_cons (ps_if (pt_cmpR op_eq (pe_op op_modN (pv 0) pe_int) pe_int (nomark _))
(pss_cons (ps_set (i := 1) sc_law_web.nd rfl (by first | exact Or.inl rfl | exact Or.inr rfl) (pe_call G_law_mixed (hr.mono (by decide)) (by rfl) T.g_law_mixed T.F_law_mixed.kp T.b_law_mixed .nil pass0 (pa_cons (pv 0) pa_nil)))
(pss_one (ps_ret (pe_tup (pa_cons (pe_op op_add pe_int (pe_op op_modN (pv 1) pe_int)) (pa_cons (pe_call G_law_rows (hr.mono (by decide)) (by rfl) T.g_law_rows T.F_law_rows.kp T.b_law_rows .nil pass0 (pa_cons (pe_op op_add pe_int (pe_op op_modN (pv 1) pe_int)) (pa_cons (pe_op op_fdivN (pv 1) pe_int) pa_nil))) pa_nil))))))
pss_nil)
(pss_one (ps_ret (pe_tup (pa_cons (pe_op op_add pe_int (pe_op op_modN (pv 1) pe_int)) (pa_cons (pe_call G_law_rows (hr.mono (by decide)) (by rfl) T.g_law_rows T.F_law_rows.kp T.b_law_rows .nil pass0 (pa_cons (pe_op op_add pe_int (pe_op op_modN (pv 1) pe_int)) (pa_cons (pe_op op_fdivN (pv 1) pe_int) pa_nil))) pa_nil))))))), ?_⟩
    refine ⟨_, rfl, _, _, rfl, rfl, ⟨by decide, by decide⟩, ?_⟩
    obtain ⟨n1, en1⟩ : ∃ x : Int, x = c.fdiv 2 := ⟨_, rfl⟩
    refine ⟨_, rfl, _, _, rfl, rfl, (by show (2 : Int) ≠ 0; decide), rfl, _, rfl, ?_⟩
    refine iteB (fun hc => ?_) (fun hc => ?_)
    · refine ⟨_, rfl, _, rfl, fun n2 => ?_⟩
      obtain ⟨b, hb, eb⟩ := fmod_nat n2 (n := 5) (by decide)
      have eb : n2.fmod 5 = (b : Int) := eb
      have e3 : (3 : Int) + n2.fmod 5 = ((3 + b : Nat) : Int) := by rw [eb]; omega
      refine ⟨_, rfl, _, _, rfl, rfl, (by show (5 : Int) ≠ 0; decide), _, _, rfl, rfl, ?_⟩
      refine ⟨_, rfl, _, _, rfl, rfl, (by show (5 : Int) ≠ 0; decide), _, _, rfl, rfl, ?_⟩
      refine ⟨_, rfl, _, _, rfl, rfl, ⟨by decide, by decide⟩, ?_⟩
      refine ⟨3 + b, n2.fdiv 5, (by rw [← e3]; rfl), by omega, by omega, fun q R H1 s1 hq hG => ?_⟩
      refine ⟨by show 2 ≤ sizeLine; decide, fun t ht => ?_⟩
      exact k t q (3 + b) R _ (s1.newer ht) (by rw [← e3]; exact upd_same) (hq.same (Same_new ht)) hG
    · obtain ⟨b, hb, eb⟩ := fmod_nat (c.fdiv 2) (n := 10) (by decide)
      have eb : (c.fdiv 2).fmod 10 = (b : Int) := eb
      have e3 : (1 : Int) + (c.fdiv 2).fmod 10 = ((1 + b : Nat) : Int) := by rw [eb]; omega
      refine ⟨_, rfl, _, _, rfl, rfl, (by show (10 : Int) ≠ 0; decide), _, _, rfl, rfl, ?_⟩
      refine ⟨_, rfl, _, _, rfl, rfl, (by show (10 : Int) ≠ 0; decide), _, _, rfl, rfl, ?_⟩
      refine ⟨_, rfl, _, _, rfl, rfl, ⟨by decide, by decide⟩, ?_⟩
      refine ⟨1 + b, (c.fdiv 2).fdiv 10, (by rw [← e3]; rfl), by omega, by omega, fun q R H1 s1 hq hG => ?_⟩
      refine ⟨by show 2 ≤ sizeLine; decide, fun t ht => ?_⟩
      exact k t q (1 + b) R _ (s1.newer ht) (by rw [← e3]; exact upd_same) (hq.same (Same_new ht)) hG
end Fw
end

section
set_option Elab.async false
set_option maxRecDepth 100000
set_option maxHeartbeats 4000000
set_option linter.all false
/-! D15: the law's walks. -/
namespace Fw
open PySem PySem.Spec PyProof.Rows L2
theorem nI_toNat : ∀ {ns : List Int}, (∀ x ∈ ns, 0 ≤ x) → nI (ns.map Int.toNat) = ns
  | [], _ => rfl
  | x :: ns, h => by
    show ((x.toNat : Nat) : Int) :: nI (ns.map Int.toNat) = x :: ns
    rw [nI_toNat fun y hy => h y (List.mem_cons_of_mem _ hy)]
    have := h x List.mem_cons_self
    rw [Int.toNat_of_nonneg this]
theorem sorted_set {S : List Nat} {ns : List Int} (nd : S.Nodup) (p : ns.Perm (nI S)) (s : ns.Pairwise (· ≤ ·)) : ∃ S', ns = nI S' ∧ S'.Pairwise (· < ·) ∧ ∀ x, x ∈ S' → x ∈ S := by
  have hp : ∀ x ∈ ns, 0 ≤ x := fun x hx => by
    obtain ⟨y, _, rfl⟩ := List.mem_map.mp (p.mem_iff.mp hx)
    exact Int.natCast_nonneg y
  have e := nI_toNat hp
  refine ⟨ns.map Int.toNat, e.symm, ?_, fun x hx => ?_⟩
  · have nd2 : (nI S).Nodup := by
      unfold nI
      rw [List.nodup_iff_pairwise_ne, List.pairwise_map]
      exact (List.nodup_iff_pairwise_ne.mp nd).imp fun h z => h (Int.ofNat.inj z)
    have nd3 := p.nodup_iff.mpr nd2
    rw [← e] at s nd3
    unfold nI at s nd3
    rw [List.pairwise_map] at s
    rw [List.nodup_iff_pairwise_ne, List.pairwise_map] at nd3
    refine (s.and nd3).imp fun {a b} h => ?_
    have h1 := h.1
    have h2 : a ≠ b := fun z => h.2 (by rw [z])
    omega
  · have : (x : Int) ∈ nI (ns.map Int.toNat) := List.mem_map.mpr ⟨x, hx, rfl⟩
    rw [e] at this
    obtain ⟨y, hy, e2⟩ := List.mem_map.mp (p.mem_iff.mp this)
    rw [← Int.ofNat.inj e2]; exact hy
theorem ok_law_walked {P : Program} {w : World} {K : PySem.W.Frag} {mg : Str → Option Value} {base : Heap} {A : Ad} (T : Txt K mg A) : FnOk P w K mg base CX0 1 A.f_law_walked A.d_law_walked ["_law_many", "_law_rows_here", "_law_cell"] (sp_law_walked) := by
  refine T.F_law_walked.ok sc_law_walked (fun vs H Q E h => ?_) (fun cdv A' outer s H vs Q E hr h => ?_)
  · obtain ⟨l, c, m, R, rfl, _⟩ := h
    rfl
  · obtain ⟨l, c, m, R, rfl, ⟨us, hl, hI⟩, G, k⟩ := h
    have hu := hu_of hr
    refine ⟨_, (pss_cons (ps_set (i := 3) sc_law_walked.nd rfl (by first | exact Or.inl rfl | exact Or.inr rfl) (pe_op op_modN (pv 2) (pv 0)))
(pss_cons (ps_set (i := 2) sc_law_walked.nd rfl (by first | exact Or.inl rfl | exact Or.inr rfl) (pe_op op_fdivN (pv 2) (pv 0)))
(pss_cons (ps_set (i := 4) sc_law_walked.nd rfl (by first | exact Or.inl rfl | exact Or.inr rfl) (pv 3))
(pss_cons (ps_set (i := 5) sc_law_walked.nd rfl (by first | exact Or.inl rfl | exact Or.inr rfl) (pe_lst pa_nil))
(pss_cons (ps_set (i := 6) sc_law_walked.nd rfl (by first | exact Or.inl rfl | exact Or.inr rfl) (pe_lst pa_nil))
(pss_cons (ps_for PassesOwn.never rfl (pi_range1 (by rfl) T.z_range (pa_cons pe_int pa_nil)) (pg_name (i := 7) sc_law_walked.nd rfl (by first | exact Or.inl rfl | exact Or.inr rfl))
(pss_cons (ps_set (i := 8) sc_law_walked.nd rfl (by first | exact Or.inl rfl | exact Or.inr rfl) (pe_lst pa_nil))
(pss_cons (ps_for PassesOwn.never rfl (pien (K := K) (by rfl) T.z_enumerate (pa_cons (pv 1) pa_nil)) (pgt (K := K) (n := 2) rfl (pgs_cons (pg_name (i := 9) sc_law_walked.nd rfl (by first | exact Or.inl rfl | exact Or.inr rfl)) (pgs_cons (pg_name (i := 10) sc_law_walked.nd rfl (by first | exact Or.inl rfl | exact Or.inr rfl)) pgs_nil)))
(pss_one (ps_if (pw_and (pt_cmpR (inq (K := K)) (pv 4) (pv 10) (by rfl)) (pw_and (pt_cmpR (niq (K := K)) (pv 9) (pv 6) (by rfl)) (pw_and1 (pt_cmpR (niq (K := K)) (pe_op op_sub (pe_op op_add (pe_ix (ixt (K := K)) (pv 10) pe_int (fun _ _ => rfl)) (pe_ix (ixt (K := K)) (pv 10) pe_int (fun _ _ => rfl))) (pv 4)) (pv 5) (by rfl))))).pt
(pss_one (ps_expr (pe_bm PySem.F.plainAttrs_list PySem.F.slot_list_append PySem.F.type_list_append mt_append (pv 8) (pa_cons (pv 9) pa_nil))))
pss_nil)))
(pss_one (ps_if (pw_and (pt_cmpR (ned (K := K) hr.units) (pv 8) (pe_lst pa_nil) (nomark _)) (pw_and1 (pw_or (pt_cmpR (eqd (K := K) hr.units) (pv 6) (pe_lst pa_nil) (nomark _)) (pw_or1 (pt_cmpR op_ne (pv 4) (pv 3) (nomark _)))).pt)).pt
(pss_cons (ps_set (i := 9) sc_law_walked.nd rfl (by first | exact Or.inl rfl | exact Or.inr rfl) (pe_ix (ixl (K := K)) (pv 8) (pe_op op_modN (pv 2) (pe_callB (lens (K := K)) (by rfl) T.z_len (by decide +kernel) (pa_cons (pv 8) pa_nil))) (fun _ _ => rfl)))
(pss_cons (ps_set (i := 2) sc_law_walked.nd rfl (by first | exact Or.inl rfl | exact Or.inr rfl) (pe_op op_fdivN (pv 2) (pe_callB (lens (K := K)) (by rfl) T.z_len (by decide +kernel) (pa_cons (pv 8) pa_nil))))
(pss_cons (ps_set (i := 4) sc_law_walked.nd rfl (by first | exact Or.inl rfl | exact Or.inr rfl) (pe_op op_sub (pe_op op_add (pe_ix (ixt (K := K)) (pe_ix (ixl (K := K)) (pv 1) (pv 9) (fun _ _ => rfl)) pe_int (fun _ _ => rfl)) (pe_ix (ixt (K := K)) (pe_ix (ixl (K := K)) (pv 1) (pv 9) (fun _ _ => rfl)) pe_int (fun _ _ => rfl))) (pv 4)))
(pss_cons (ps_expr (pe_bm PySem.F.plainAttrs_list PySem.F.slot_list_append PySem.F.type_list_append mt_append (pv 5) (pa_cons (pv 4) pa_nil)))
(pss_one (ps_expr (pe_bm PySem.F.plainAttrs_list PySem.F.slot_list_append PySem.F.type_list_append mt_append (pv 6) (pa_cons (pv 9) pa_nil))))))))
pss_nil)))))
(pss_one (ps_ret (pe_callTy (tupof (K := K)) (by rfl) T.z_tuple (by decide +kernel) (pa_cons (pe_callB cr_sortedI (by rfl) T.z_sorted (by decide +kernel) (pa_cons (pv 6) pa_nil)) pa_nil)))))))))), ?_⟩
    have h1 := G.one
    have h10 := G.ten
    have h12 := G.len
    have hul : us.length = R.length := by rw [hI.len, List.length_map]
    have hm0 : (m : Int) ≠ 0 := by omega
    refine ⟨_, rfl, _, rfl, _, _, rfl, rfl, hm0, ?_⟩
    refine ⟨_, rfl, _, rfl, _, _, rfl, rfl, ⟨hm0, by omega⟩, ?_⟩
    refine ⟨_, rfl, ?_⟩
    refine ⟨Nat.zero_le _, fun sn hsn => ⟨Nat.zero_le _, fun sm hsm => ?_⟩⟩
    have nsm : sn ≠ sm := ne_of_none upd_same hsm
    have hsmH := (Same_new hsn).free hsm
    refine ⟨_, rfl, by decide, by decide, ?_⟩
    refine for_range (lo := 0) (n := 10) (fun i σ H1 => ∃ (cell here : Int) (v7 v8 v9 v10 : Option V) (ns : List Int) (S : List Nat), σ = [some (.int m), some (.ref l), some (.int cell), some (.int (c.fmod m)), some (.int here), some (.ref sn), some (.ref sm), v7, v8, v9, v10] ∧ Same H H1 ∧ H1 sn = some (.lst (ns.map V.int)) ∧ H1 sm = some (.lst ((nI S).map V.int)) ∧ S.Nodup ∧ (∀ x ∈ S, x < R.length) ∧ ns.length ≤ i ∧ S.length ≤ i)
      ⟨_, _, _, _, _, _, [], [], rfl, (Same_new hsn).newer hsm, by rw [upd_ne nsm, upd_same]; rfl, by rw [upd_same]; rfl, List.nodup_nil, fun x h => (nomatch h), Nat.le_refl _, Nat.le_refl _⟩ ?_ ?_
    · rintro i σ H1 hi ⟨cell, here, v7, v8, v9, v10, ns, S, rfl, s1, hsn1, hsm1, nd, lt, nl, Sl⟩
      refine ⟨Nat.zero_le _, fun st hst => ?_⟩
      have nns : sn ≠ st := ne_of_none hsn1 hst
      have nms : sm ≠ st := ne_of_none hsm1 hst
      have s12 := Same_new (o := .lst []) hst
      have hst2 : (upd H1 st (.lst [])) st = some (.lst ((nI []).map V.int)) := upd_same
      have hstH := s1.free hst
      generalize (upd H1 st (.lst [])) = H2 at s12 hst2
      refine ⟨_, rfl, l, us, rfl, SqL.of (s12 _ _ (s1 _ _ hl)), ?_⟩
      refine for_it (walk_enum (K := K) (a := l) (xs := us)) (fun j σ H3 => ∃ (v9 v10 : Option V) (St : List Nat), σ = [some (.int m), some (.ref l), some (.int cell), some (.int (c.fmod m)), some (.int here), some (.ref sn), some (.ref sm), some (.int (0 + (i : Nat))), some (.ref st), v9, v10] ∧ Same H1 H3 ∧ H3 st = some (.lst ((nI St).map V.int)) ∧ (∀ x ∈ St, x < j ∧ x ∉ S) ∧ St.length ≤ j)
        ⟨_, _, [], rfl, s12, hst2, fun x h => (nomatch h), Nat.le_refl _⟩ (fun j σ H3 _ ⟨_, _, _, _, z, _⟩ => SqL.of (z _ _ (s1 _ _ hl))) ?_ ?_
      · rintro j y σ H3 H4 hj ⟨v9, v10, St, rfl, s13, hst3, hSt, hStl⟩ ⟨t, y1, y2, rfl, ht, rfl, e1, e2⟩
        cases e1
        have hjR : j < R.length := by omega
        obtain ⟨nss, e3, a, rfl, ha⟩ := hI.get e2
        rw [rI_at hjR] at e3
        cases e3
        refine ⟨t, _, rfl, SqT.of upd_same, rfl, _, _, rfl, _, _, rfl, rfl, ?_⟩
        have s34 := Same_new (o := .tup [.int j, .ref a]) ht
        generalize (upd H3 t (.tup [.int j, .ref a])) = H4 at s34
        have s14 := s13.trans s34
        have s04 := s1.trans s14
        have hst4 := s34 _ _ hst3
        have ha4 := s04 _ _ ha
        have skip : ∃ (v9' v10' : Option V) (St : List Nat), [some (V.int m), some (V.ref l), some (V.int cell), some (V.int (c.fmod m)), some (V.int here), some (V.ref sn), some (V.ref sm), some (V.int (0 + (i : Nat))), some (V.ref st), some (V.int j), some (V.ref a)] = [some (V.int m), some (V.ref l), some (V.int cell), some (V.int (c.fmod m)), some (V.int here), some (V.ref sn), some (V.ref sm), some (V.int (0 + (i : Nat))), some (V.ref st), v9', v10'] ∧ Same H1 H4 ∧ H4 st = some (.lst ((nI St).map V.int)) ∧ (∀ x ∈ St, x < j + 1 ∧ x ∉ S) ∧ St.length ≤ j + 1 :=
          ⟨_, _, St, rfl, s14, hst4, fun x hx => ⟨by have := (hSt x hx).1; omega, (hSt x hx).2⟩, by omega⟩
        refine ⟨_, rfl, _, rfl, a, _, rfl, .inr (SqT.of ha4), rfl, flatInts _, _, rfl, ?_⟩
        refine iteB (fun _ => ?_) (fun _ => iteN rfl skip)
        refine ⟨_, rfl, _, rfl, sm, _, rfl, .inl (SqL.of (s14 _ _ hsm1)), rfl, flatInts _, _, rfl, ?_⟩
        rw [inNats]
        refine iteB (fun hc => ?_) (fun _ => iteN rfl skip)
        have hjS : j ∉ S := by simpa using hc
        refine ⟨_, rfl, a, _, _, _, rfl, rfl, SqT.of ha4, atI_nat (j := 0) rfl, _, rfl, a, _, _, _, rfl, rfl, SqT.of ha4, atI_nat (j := 1) rfl, _, _, rfl, rfl, _, rfl, _, _, rfl, rfl, _, rfl, sn, _, rfl, .inl (SqL.of (s14 _ _ hsn1)), rfl, flatInts _, _, rfl, ?_⟩
        refine iteB (fun _ => ?_) (fun _ => skip)
        refine ⟨_, rfl, .inl ⟨rfl, _, SqL.of hst4⟩, _, rfl, st, _, _, rfl, rfl, hst4, szl (by rw [nI_len]; omega), ?_⟩
        refine ⟨_, _, St ++ [j], rfl, s14.mut hst, by rw [upd_same]; simp [nI], fun x hx => ?_, by simp; omega⟩
        rcases mem_last hx with z | z
        · exact ⟨by have := (hSt x z).1; omega, (hSt x z).2⟩
        · rw [z]; exact ⟨Nat.lt_succ_self _, hjS⟩
      · rintro σ H3 ⟨v9, v10, St, rfl, s13, hst3, hSt, hStl⟩
        rw [hul] at hSt hStl
        have skipAt : ∀ H4, Same H1 H4 → ∃ (cell' here' : Int) (v7' v8' v9' v10' : Option V) (ns : List Int) (S : List Nat), [some (V.int m), some (V.ref l), some (V.int cell), some (V.int (c.fmod m)), some (V.int here), some (V.ref sn), some (V.ref sm), some (V.int (0 + (i : Nat))), some (V.ref st), v9, v10] = [some (.int m), some (.ref l), some (.int cell'), some (.int (c.fmod m)), some (.int here'), some (.ref sn), some (.ref sm), v7', v8', v9', v10'] ∧ Same H H4 ∧ H4 sn = some (.lst (ns.map V.int)) ∧ H4 sm = some (.lst ((nI S).map V.int)) ∧ S.Nodup ∧ (∀ x ∈ S, x < R.length) ∧ ns.length ≤ i + 1 ∧ S.length ≤ i + 1 := fun H4 s =>
          ⟨_, _, _, _, _, _, ns, S, rfl, s1.trans s, s _ _ hsn1, s _ _ hsm1, nd, lt, by omega, by omega⟩
        refine ⟨_, rfl, Nat.zero_le _, fun p hp => ?_⟩
        have s34 := Same_new (o := .lst []) hp
        have hp4 : (upd H3 p (.lst [])) p = some (.lst []) := upd_same
        generalize (upd H3 p (.lst [])) = H4 at s34 hp4
        have hst4 := s34 _ _ hst3
        have s14 := s13.trans s34
        refine ⟨_, _, dpIL (SqL.of hst4), dpIL (ns := []) (SqL.of hp4), shIL _, shIL [], _, rfl, ?_⟩
        rw [eqvIL]
        refine iteB (fun hc => ?_) (fun _ => iteN rfl (skipAt _ s14))
        have hpos : 0 < St.length := by
          cases St with
          | nil => simp [nI] at hc
          | cons a L => simp
        refine ⟨_, rfl, Nat.zero_le _, fun p2 hp2 => ?_⟩
        have s45 := Same_new (o := .lst []) hp2
        have hp5 : (upd H4 p2 (.lst [])) p2 = some (.lst []) := upd_same
        generalize (upd H4 p2 (.lst [])) = H5 at s45 hp5
        have hst5 := s45 _ _ hst4
        have s15 := s14.trans s45
        have hsm5 := s15 _ _ hsm1
        have hsn5 := s15 _ _ hsn1
        have s05 := s1.trans s15
        refine ⟨_, _, dpIL (SqL.of hsm5), dpIL (ns := []) (SqL.of hp5), shIL _, shIL [], _, rfl, ?_⟩
        refine iteB (fun _ => iteY rfl ?gA) (fun _ => ⟨_, rfl, _, rfl, rfl, _, rfl, iteB (fun _ => ?gB) (fun _ => skipAt _ s15)⟩)
        all_goals
          have hlen : ((nI St).map V.int).length = St.length := nI_len St
          have hcount : ((((nI St).map V.int).length : Nat) : Int) ≠ 0 := by omega
          obtain ⟨j, hj, ej⟩ := fmod_nat cell (n := ((nI St).map V.int).length) (by omega)
          have ex : St[j]? = some (St[j]'(by omega)) := List.getElem?_eq_getElem _
          generalize St[j]'(by omega) = x at ex
          have hx := hSt x (List.mem_of_getElem? ex)
          obtain ⟨y, hy, a, rfl, ha⟩ := hI.at (rI_at hx.1)
          have ha5 := s05 _ _ ha
          have hl5 := s05 _ _ hl
          refine ⟨_, rfl, _, rfl, _, rfl, st, _, rfl, .inl (SqL.of hst5), _, _, rfl, rfl, hcount, st, _, _, _, rfl, rfl, SqL.of hst5, (by rw [ej]; exact at_nI ex), ?_⟩
          refine ⟨_, rfl, _, rfl, st, _, rfl, .inl (SqL.of hst5), _, _, rfl, rfl, ⟨hcount, by omega⟩, ?_⟩
          refine ⟨_, rfl, _, rfl, l, us, _, _, rfl, rfl, SqL.of hl5, atI_nat hy, a, _, _, _, rfl, rfl, SqT.of ha5, atI_nat (j := 0) rfl, ?_⟩
          refine ⟨_, rfl, _, rfl, l, us, _, _, rfl, rfl, SqL.of hl5, atI_nat hy, a, _, _, _, rfl, rfl, SqT.of ha5, atI_nat (j := 1) rfl, ?_⟩
          refine ⟨_, _, rfl, rfl, _, rfl, _, _, rfl, rfl, ?_⟩
          refine ⟨_, rfl, .inl ⟨rfl, _, SqL.of hsn5⟩, _, rfl, sn, _, _, rfl, rfl, hsn5, szl (by simp; omega), ?_⟩
          have hsm6 : ∀ o, (upd H5 sn o) sm = some (.lst ((nI S).map V.int)) := fun o => by rw [upd_ne nsm.symm]; exact hsm5
          refine ⟨_, rfl, .inl ⟨rfl, _, SqL.of (hsm6 _)⟩, _, rfl, sm, _, _, rfl, rfl, hsm6 _, szl (by rw [nI_len]; omega), ?_⟩
          refine ⟨_, _, _, _, _, _, ns ++ [_], S ++ [x], rfl, (s05.mut hsn).mut hsmH, by rw [upd_ne nsm, upd_same, List.map_append]; rfl, by rw [upd_same]; simp [nI], ?_, ?_, by simp; omega, by simp; omega⟩
          · rw [List.nodup_append]
            exact ⟨nd, by simp, fun w hw b hb z => by rw [List.mem_singleton.mp hb] at z; rw [z] at hw; exact hx.2 hw⟩
          · intro z hz
            rcases mem_last hz with q | q
            · exact lt z q
            · rw [q]; exact hx.1
    · rintro σ H1 ⟨cell, here, v7, v8, v9, v10, ns, S, rfl, s1, hsn1, hsm1, nd, lt, nl, Sl⟩
      refine ⟨_, rfl, sm, nI S, rfl, SqL.of hsm1, fun ms p hpe hso hp => ⟨p, _, rfl, SqL.of upd_same, fun q hq => ?_⟩⟩
      obtain ⟨S', rfl, hS', hsub⟩ := sorted_set nd hpe hso
      exact k (.ref q) S' _ ((s1.newer hp).newer hq) ⟨q, rfl, upd_same⟩ hS' fun x hx => lt x (hsub x hx)
end Fw
end

section
set_option Elab.async false
set_option maxRecDepth 100000
set_option maxHeartbeats 4000000
set_option linter.all false
/-! D16: the law's own round. -/
namespace Fw
open PySem PySem.Spec PyProof.Rows L2
theorem erase_first {x : Nat} : ∀ {S : List Nat}, x ∈ S → ∃ j, S[j]? = some x ∧ (∀ m, m < j → S[m]? ≠ some x) ∧ S.eraseIdx j = S.erase x
  | [], h => nomatch h
  | y :: S, h => by
    by_cases e : y = x
    · exact ⟨0, by simp [e], fun m h => absurd h (Nat.not_lt_zero _), by simp [e]⟩
    · obtain ⟨j, a, b, c⟩ := erase_first ((List.mem_cons.mp h).resolve_left fun z => e z.symm)
      refine ⟨j + 1, by simpa using a, fun m hm => ?_, ?_⟩
      · cases m with
        | zero => simp [e]
        | succ m => simpa using b m (by omega)
      · rw [List.eraseIdx_cons_succ, c, List.erase_cons_tail (by simp [e])]
theorem walk_none {e : Nat → Nat × Nat} {s : Nat} {S : List Nat} (h : walkLoop e (s :: S).length true (e s).1 (s :: S) [] = Option.none) : walk e (s :: S) = [] := by
  show (match walkLoop e (s :: S).length true (e s).1 (s :: S) [] with | Option.none => [] | some (h, seen) => if h = (e s).1 then seen else []) = []
  rw [h]
theorem walk_some {e : Nat → Nat × Nat} {s : Nat} {S : List Nat} {h : Nat} {seen : List Nat} (q : walkLoop e (s :: S).length true (e s).1 (s :: S) [] = some (h, seen)) : walk e (s :: S) = if h = (e s).1 then seen else [] := by
  show (match walkLoop e (s :: S).length true (e s).1 (s :: S) [] with | Option.none => [] | some (h, seen) => if h = (e s).1 then seen else []) = _
  rw [q]
theorem wl_succ (e : Nat → Nat × Nat) (j : Nat) (first : Bool) (here : Nat) (left seen : List Nat) : walkLoop e (j + 1) first here left seen = if (left.filter (inc e here)).length ≠ 1 + (if first then 1 else 0) ∨ here ∈ seen then Option.none
    else walkLoop e j false (other e ((left.filter (inc e here)).headD 0) here) (left.erase ((left.filter (inc e here)).headD 0)) (seen ++ [here]) := rfl
theorem not_false_dec {p : Prop} [Decidable p] (h : (!decide p) = false) : p := by
  by_cases z : p
  · exact z
  · simp [z] at h
theorem nI_idx {S : List Nat} {j x : Nat} (h : S[j]? = some x) : (nI S)[j]? = some (x : Int) := by
  unfold nI; rw [List.getElem?_map, h]; rfl
theorem nI_nidx {S : List Nat} {j x : Nat} (h : S[j]? ≠ some x) : (nI S)[j]? ≠ some (x : Int) := by
  unfold nI
  rw [List.getElem?_map]
  intro z
  cases e : S[j]? with
  | none => rw [e] at z; cases z
  | some y =>
    rw [e] at z h
    have := Int.ofNat.inj (Option.some.inj z)
    exact h (by rw [this])
theorem ok_law_round {P : Program} {w : World} {K : PySem.W.Frag} {mg : Str → Option Value} {base : Heap} {A : Ad} (T : Txt K mg A) : FnOk P w K mg base CX0 1 A.f_law_round A.d_law_round ["_law_rows_here", "_law_some"] (sp_law_round) := by
  refine T.F_law_round.ok sc_law_round (fun vs H Q E h => ?_) (fun cdv A' outer s H vs Q E hr h => ?_)
  · obtain ⟨l, v, m, R, S, rfl, _⟩ := h
    rfl
  · obtain ⟨l, v, m, R, S, rfl, ⟨us, hl, hI⟩, hpts, h12, hv, hso, hlt, k⟩ := h
    have hu := hu_of hr
    refine ⟨_, (pss_cons (ps_if (pt_cmpR (eqd (K := K) hr.units) (pv 1) (pe_tup pa_nil) (nomark _))
(pss_one (ps_ret (pe_lst pa_nil)))
pss_nil)
(pss_cons (ps_set (i := 2) sc_law_round.nd rfl (by first | exact Or.inl rfl | exact Or.inr rfl) (pe_ix (ixt (K := K)) (pe_ix (ixl (K := K)) (pv 0) (pe_ix (ixt (K := K)) (pv 1) pe_int (fun _ _ => rfl)) (fun _ _ => rfl)) pe_int (fun _ _ => rfl)))
(pss_cons (ps_set (i := 3) sc_law_round.nd rfl (by first | exact Or.inl rfl | exact Or.inr rfl) (pv 2))
(pss_cons (ps_set (i := 4) sc_law_round.nd rfl (by first | exact Or.inl rfl | exact Or.inr rfl) (pe_callTy (lstof (K := K)) (by rfl) T.z_list (by decide +kernel) (pa_cons (pv 1) pa_nil)))
(pss_cons (ps_set (i := 5) sc_law_round.nd rfl (by first | exact Or.inl rfl | exact Or.inr rfl) (pe_lst pa_nil))
(pss_cons (ps_for PassesOwn.never rfl (pi_range1 (by rfl) T.z_range (pa_cons (pe_callB (lens (K := K)) (by rfl) T.z_len (by decide +kernel) (pa_cons (pv 1) pa_nil)) pa_nil)) (pg_name (i := 6) sc_law_round.nd rfl (by first | exact Or.inl rfl | exact Or.inr rfl))
(pss_cons (ps_setLc (i := 7) (own := [("_law_k", 8)]) rfl sc_law_round.nd rfl rfl (sw_true rfl rfl rfl (by decide +kernel)) (pil (K := K) (pv 4)) (blkOk_by (N := ["_law_rows_here", "_law_some", "_law_begin", "_law_here", "_law_left", "_law_seen", "_law_turn", "_law_steps", "_law_k"]) (sc := defScope s_law_round) (by decide +kernel)) (fun _ _ _ _ _ => (pg_name (i := 8) sc_law_round.nd rfl (by first | exact Or.inl rfl | exact Or.inr rfl))) (fun _ _ _ _ _ => (pts_one (pt_cmpR (inq (K := K)) (pv 3) (pe_ix (ixl (K := K)) (pv 0) (pv 8) (fun _ _ => rfl)) (by rfl)))) (fun _ _ _ _ _ => (pv 8)))
(pss_cons (ps_if (pw_or (pt_cmpR op_ne (pe_callB (lens (K := K)) (by rfl) T.z_len (by decide +kernel) (pa_cons (pv 7) pa_nil)) (pe_op op_add pe_int (pe_callTy call_int1 (by rfl) T.z_int (by decide +kernel) (pa_cons (pe_cmpR op_eq (pv 6) pe_int (nomark _)) pa_nil))) (nomark _)) (pw_or1 (pt_cmpR (inq (K := K)) (pv 3) (pv 5) (by rfl)))).pt
(pss_one (ps_ret (pe_lst pa_nil)))
pss_nil)
(pss_cons (ps_expr (pe_bm PySem.F.plainAttrs_list PySem.F.slot_list_append PySem.F.type_list_append mt_append (pv 5) (pa_cons (pv 3) pa_nil)))
(pss_cons (ps_expr (pe_bm PySem.F.plainAttrs_list PySem.F.slot_list_remove PySem.F.type_list_remove mt_remove (pv 4) (pa_cons (pe_ix (ixl (K := K)) (pv 7) pe_int (fun _ _ => rfl)) pa_nil)))
(pss_one (ps_set (i := 3) sc_law_round.nd rfl (by first | exact Or.inl rfl | exact Or.inr rfl) (pe_op op_sub (pe_op op_add (pe_ix (ixt (K := K)) (pe_ix (ixl (K := K)) (pv 0) (pe_ix (ixl (K := K)) (pv 7) pe_int (fun _ _ => rfl)) (fun _ _ => rfl)) pe_int (fun _ _ => rfl)) (pe_ix (ixt (K := K)) (pe_ix (ixl (K := K)) (pv 0) (pe_ix (ixl (K := K)) (pv 7) pe_int (fun _ _ => rfl)) (fun _ _ => rfl)) pe_int (fun _ _ => rfl))) (pv 3)))))))))
(pss_cons (ps_if (pt_cmpR op_ne (pv 3) (pv 2) (nomark _))
(pss_one (ps_ret (pe_lst pa_nil)))
pss_nil)
(pss_one (ps_ret (pv 5)))))))))), ?_⟩
    have hul : us.length = R.length := by rw [hI.len, List.length_map]
    have row : ∀ x, x < R.length → ∃ b : Addr, us[x]? = some (.ref b) ∧ H b = some (.tup ((rI (eW R x)).map V.int)) := fun x hx => by
      obtain ⟨y, hy, b, rfl, hb⟩ := hI.at (rI_at hx)
      exact ⟨b, hy, hb⟩
    refine ⟨_, rfl, Nat.zero_le _, fun p hp => ?_⟩
    have s01 := Same_new (o := .tup []) hp
    have hp1 : (upd H p (.tup [])) p = some (.tup []) := upd_same
    generalize (upd H p (.tup [])) = H1 at s01 hp1
    refine ⟨_, _, (hv.kt s01.kt).dp, IT.dp ⟨p, rfl, (show H1 p = some (.tup (([] : List Int).map V.int)) from hp1)⟩, shT _, shT [], _, rfl, ?_⟩
    rw [eqvT]
    cases S with
    | nil =>
      refine iteY rfl ⟨Nat.zero_le _, fun q hq => ?_⟩
      exact k q _ (s01.newer hq) upd_same
    | cons s S =>
    refine iteN (by simp [nI]) ?_
    have hsR := hlt s List.mem_cons_self
    obtain ⟨a, rfl, ha⟩ := hv
    obtain ⟨b0, hy0, hb0⟩ := row s hsR
    refine ⟨_, rfl, _, rfl, a, _, _, _, rfl, rfl, SqT.of (s01 _ _ ha), atI_nat (j := 0) rfl, l, us, _, _, rfl, rfl, SqL.of (s01 _ _ hl), atI_nat hy0, b0, _, _, _, rfl, rfl, SqT.of (s01 _ _ hb0), atI_nat (j := 0) rfl, ?_⟩
    refine ⟨_, rfl, ?_⟩
    refine ⟨_, rfl, a, _, rfl, .inr (SqT.of (s01 _ _ ha)), fun lf hlf => ?_⟩
    refine ⟨Nat.zero_le _, fun sn hsn => ?_⟩
    have nls : lf ≠ sn := ne_of_none upd_same hsn
    have hlfH := s01.free hlf
    have hsnH := (s01.newer hlf).free hsn
    have s02 := (s01.newer (o := .lst ((nI (s :: S)).map V.int)) hlf).newer (o := .lst []) hsn
    have hlf2 : (upd (upd H1 lf (.lst ((nI (s :: S)).map V.int))) sn (.lst [])) lf = some (.lst ((nI (s :: S)).map V.int)) := by rw [upd_ne nls, upd_same]
    have hsn2 : (upd (upd H1 lf (.lst ((nI (s :: S)).map V.int))) sn (.lst [])) sn = some (.lst ((nI []).map V.int)) := upd_same
    have hnS : ((nI (s :: S)).map V.int).length = (s :: S).length := nI_len _
    have hSl : (s :: S).length ≤ 12 := by
      have := nd_le (l := s :: S) (m := List.range R.length) (hso.imp fun h => Nat.ne_of_lt h) fun x hx => List.mem_range.mpr (hlt x hx)
      rw [List.length_range] at this
      omega
    refine ⟨_, rfl, a, _, rfl, .inr (SqT.of (s02 _ _ ha)), _, rfl, by omega, by omega, ?_⟩
    rw [Int.toNat_natCast]
    rw [hnS]
    generalize (upd (upd H1 lf (.lst ((nI (s :: S)).map V.int))) sn (.lst [])) = H2 at s02 hlf2 hsn2
    refine for_range (lo := 0) (n := (s :: S).length) (fun i σ H3 => ∃ (here : Nat) (v6 v7 v8 : Option V) (left seen : List Nat), σ = [some (.ref l), some (.ref a), some (.int ((eW R s).1 : Nat)), some (.int (here : Nat)), some (.ref lf), some (.ref sn), v6, v7, v8] ∧ Same H H3 ∧ H3 lf = some (.lst ((nI left).map V.int)) ∧ H3 sn = some (.lst ((nI seen).map V.int)) ∧
        walkLoop (eW R) ((s :: S).length - i) (decide (i = 0)) here left seen = walkLoop (eW R) (s :: S).length true (eW R s).1 (s :: S) [] ∧ (∀ x ∈ left, x < R.length) ∧ left.length ≤ 12 ∧ seen.length ≤ i)
      ⟨_, _, _, _, s :: S, [], rfl, s02, hlf2, hsn2, rfl, hlt, hSl, Nat.le_refl _⟩ ?_ ?_
    · rintro i σ H3 hi ⟨here, v6, v7, v8, left, seen, rfl, s3, hlf3, hsn3, hw, hlR, hll, hsl⟩
      rw [Int.zero_add]
      have hl3 := s3 _ _ hl
      rw [show (s :: S).length - i = ((s :: S).length - (i + 1)) + 1 by omega] at hw
      refine ⟨_, rfl, lf, rfl, ⟨_, SqL.of hlf3⟩, fun D hD => ?_⟩
      refine lc_list (K := K) (a := lf) (xs := (nI left).map V.int) (fun j H4 => Same H3 H4 ∧ H4 D = some (.lst ((nI ((left.take j).filter (inc (eW R) here))).map V.int))) ⟨Same_new hD, upd_same⟩ (fun j H4 _ q => SqL.of (q.1 _ _ hlf3)) ?_ ?_
      · rintro j y H4 hj ⟨s4, hD4⟩
        obtain ⟨x, ex, rfl⟩ := nI_at hj
        obtain ⟨b, hy, hb⟩ := row x (hlR x (List.mem_of_getElem? ex))
        have s04 := s3.trans s4
        refine ⟨rfl, _, rfl, _, rfl, _, rfl, l, us, _, _, rfl, rfl, SqL.of (s04 _ _ hl), atI_nat hy, b, _, rfl, .inr (SqT.of (s04 _ _ hb)), rfl, flatInts _, _, rfl, ?_⟩
        rw [in_row]
        have etk := take_snoc ex
        have hfl : ((left.take j).filter (inc (eW R) here)).length ≤ 12 := Nat.le_trans (List.length_filter_le _ _) (Nat.le_trans (List.length_take_le _ _) (show j ≤ 12 by
          have hle : j < left.length := (List.getElem?_eq_some_iff.mp ex).1
          omega))
        refine iteB (fun hc => ?_) (fun hc => ?_)
        · have hc : inc (eW R) here x = true := hc
          refine ⟨_, rfl, _, hD4, szl (by rw [nI_len]; omega), s4.mut hD, ?_⟩
          rw [upd_same, etk, List.filter_append, List.filter_cons_of_pos hc]
          simp [nI]
        · have hc : inc (eW R) here x = false := hc
          refine ⟨s4, ?_⟩
          rw [hD4, etk, List.filter_append, List.filter_cons_of_neg (by rw [hc]; decide)]
          simp [nI]
      · rintro H4 ⟨s4, hD4⟩
        rw [nI_len, List.take_length] at hD4
        have s04 := s3.trans s4
        have hlf4 := s4 _ _ hlf3
        have hsn4 := s4 _ _ hsn3
        generalize hst : left.filter (inc (eW R) here) = st at hD4
        rw [wl_succ (eW R) ((s :: S).length - (i + 1)), hst] at hw
        refine ⟨_, rfl, D, _, rfl, .inl (SqL.of hD4), _, rfl, rfl, .inr ⟨_, rfl, _, _, rfl, rfl, rfl, _, rfl, ?_⟩⟩
        have retNil : ∀ H5, Same H H5 → walkLoop (eW R) (s :: S).length true (eW R s).1 (s :: S) [] = Option.none → ∀ q, H5 q = Option.none → ∀ Q : VK, (∀ q H', Same H H' → H' q = some (.lst ((nI (walk (eW R) (s :: S))).map V.int)) → Q (.ref q) H') → Q (.ref q) (upd H5 q (.lst [])) := fun H5 s5 hn q hq Q k => k q _ (s5.newer hq) (by rw [upd_same, walk_none hn]; rfl)
        rw [dInt, dInt, nI_len]
        have e0 : decide ((i : Int) = 0) = decide (i = 0) := decide_eq_decide.mpr ⟨fun z => by omega, fun z => by omega⟩
        rw [e0]
        refine iteB (fun hc => ?_) (fun hc => ?_)
        · refine iteY rfl ⟨Nat.zero_le _, fun q hq => retNil _ s04 ?_ q hq _ k⟩
          have hne : st.length ≠ 1 + (if decide (i = 0) = true then 1 else 0) := fun z => ?_
          · rw [← hw, if_pos (.inl hne)]
          have hc : (!decide ((st.length : Int) = 1 + (if decide (i = 0) = true then 1 else 0))) = true := hc
          rw [z] at hc
          by_cases hi0 : i = 0
          · subst hi0; simp at hc
          · simp [hi0] at hc
        · have hlen : st.length = 1 + (if decide (i = 0) = true then 1 else 0) := by
            have hc : (!decide ((st.length : Int) = 1 + (if decide (i = 0) = true then 1 else 0))) = false := hc
            have hc := not_false_dec hc
            by_cases hi0 : i = 0
            · subst hi0; simp at hc ⊢; omega
            · simp [hi0] at hc ⊢; omega
          refine ⟨_, rfl, _, rfl, sn, _, rfl, .inl (SqL.of hsn4), rfl, flatInts _, _, rfl, ?_⟩
          rw [inNats]
          refine iteB (fun hc2 => ⟨Nat.zero_le _, fun q hq => retNil _ s04 ?_ q hq _ k⟩) (fun hc2 => ?_)
          · have hc2 : seen.contains here = true := hc2
            rw [← hw, if_pos (.inr (List.contains_iff_mem.mp hc2))]
          · have hns : here ∉ seen := fun z => by
              have hc2 : seen.contains here = false := hc2
              rw [List.contains_iff_mem.mpr z] at hc2
              cases hc2
            rw [if_neg (by rintro (z | z); exact z hlen; exact hns z)] at hw
            obtain ⟨x, st', rfl⟩ : ∃ x st', st = x :: st' := by
              cases st with
              | nil => simp at hlen; split at hlen <;> omega
              | cons x st' => exact ⟨x, st', rfl⟩
            have hxm : x ∈ left.filter (inc (eW R) here) := by rw [hst]; exact List.mem_cons_self
            obtain ⟨hxl, hxi⟩ := List.mem_filter.mp hxm
            have hxR := hlR x hxl
            obtain ⟨b, hy, hb⟩ := row x hxR
            have hD4' : H4 D = some (.lst ((nI (x :: st')).map V.int)) := hD4
            -- seen.append(here)
            have nld : lf ≠ D := ne_of_none hlf3 hD
            have nsd : sn ≠ D := ne_of_none hsn3 hD
            refine ⟨_, rfl, .inl ⟨rfl, _, SqL.of hsn4⟩, _, rfl, sn, _, _, rfl, rfl, hsn4, szl (by rw [nI_len]; omega), ?_⟩
            have s05 := s04.mut (o := .lst ((nI seen).map V.int ++ [.int (here : Int)])) hsnH
            have hlf5 : (upd H4 sn (.lst ((nI seen).map V.int ++ [.int (here : Int)]))) lf = some (.lst ((nI left).map V.int)) := by rw [upd_ne nls]; exact hlf4
            have hD5 : (upd H4 sn (.lst ((nI seen).map V.int ++ [.int (here : Int)]))) D = some (.lst ((nI (x :: st')).map V.int)) := by rw [upd_ne nsd.symm]; exact hD4'
            have hsn5 : (upd H4 sn (.lst ((nI seen).map V.int ++ [.int (here : Int)]))) sn = some (.lst ((nI (seen ++ [here])).map V.int)) := by rw [upd_same]; simp [nI]
            generalize (upd H4 sn (.lst ((nI seen).map V.int ++ [.int (here : Int)]))) = H5 at s05 hlf5 hD5 hsn5
            -- left.remove(steps[0])
            obtain ⟨j, ej, fj, dj⟩ := erase_first hxl
            refine ⟨_, rfl, .inl ⟨rfl, _, SqL.of hlf5⟩, _, rfl, D, _, _, _, rfl, rfl, SqL.of hD5, at_nI (j := 0) rfl, lf, nI left, (x : Int), j, rfl, rfl, hlf5, nI_idx ej, fun mm hmm => nI_nidx (fj mm hmm), ?_⟩
            have eer : (nI left).eraseIdx j = nI (left.erase x) := by rw [← dj]; unfold nI; rw [erase_map]
            rw [eer]
            have s06 := s05.mut (o := .lst ((nI (left.erase x)).map V.int)) hlfH
            have hlf6 : (upd H5 lf (.lst ((nI (left.erase x)).map V.int))) lf = some (.lst ((nI (left.erase x)).map V.int)) := upd_same
            have hD6 : (upd H5 lf (.lst ((nI (left.erase x)).map V.int))) D = some (.lst ((nI (x :: st')).map V.int)) := by rw [upd_ne nld.symm]; exact hD5
            have hsn6 : (upd H5 lf (.lst ((nI (left.erase x)).map V.int))) sn = some (.lst ((nI (seen ++ [here])).map V.int)) := by rw [upd_ne nls.symm]; exact hsn5
            generalize (upd H5 lf (.lst ((nI (left.erase x)).map V.int))) = H6 at s06 hlf6 hD6 hsn6
            have hl6 := s06 _ _ hl
            have hb6 := s06 _ _ hb
            refine ⟨_, rfl, _, rfl, D, _, _, _, rfl, rfl, SqL.of hD6, at_nI (j := 0) rfl, l, us, _, _, rfl, rfl, SqL.of hl6, atI_nat hy, b, _, _, _, rfl, rfl, SqT.of hb6, atI_nat (j := 0) rfl, ?_⟩
            refine ⟨_, rfl, _, rfl, D, _, _, _, rfl, rfl, SqL.of hD6, at_nI (j := 0) rfl, l, us, _, _, rfl, rfl, SqL.of hl6, atI_nat hy, b, _, _, _, rfl, rfl, SqT.of hb6, atI_nat (j := 1) rfl, ?_⟩
            refine ⟨_, _, rfl, rfl, _, rfl, _, _, rfl, rfl, ?_⟩
            have eo : (((eW R x).1 : Nat) : Int) + (((eW R x).2 : Nat) : Int) - (here : Int) = ((other (eW R) x here : Nat) : Int) := by
              unfold other
              rcases inc_iff.mp hxi with z | z
              · omega
              · omega
            refine ⟨other (eW R) x here, _, _, _, left.erase x, seen ++ [here], by rw [← eo]; rfl, s06, hlf6, hsn6, ?_, fun y hy => hlR y (List.mem_of_mem_erase hy), Nat.le_trans List.length_erase_le hll, by simp; omega⟩
            rw [← hw]
            rfl
    · rintro σ H3 ⟨here, v6, v7, v8, left, seen, rfl, s3, hlf3, hsn3, hw, hlR, hll, hsl⟩
      rw [Nat.sub_self] at hw
      have hw := walk_some hw.symm
      refine ⟨_, rfl, _, rfl, rfl, _, rfl, ?_⟩
      rw [dInt]
      refine iteB (fun hc => ⟨Nat.zero_le _, fun q hq => ?_⟩) (fun hc => ⟨_, rfl, ?_⟩)
      · refine k q _ (s3.newer hq) ?_
        rw [upd_same, hw, if_neg]
        · rfl
        · intro z
          rw [z] at hc
          simp at hc
      · refine k sn _ s3 ?_
        rw [hsn3, hw, if_pos]
        have hc := not_false_dec hc
        exact Int.ofNat.inj hc
end Fw
end

section
set_option Elab.async false
set_option maxRecDepth 100000
set_option maxHeartbeats 4000000
set_option linter.all false
/-! D17: the plain law, for webs. -/
namespace Fw
open PySem PySem.Spec PyProof.Rows L2
theorem eW_srt (R : List (Nat × Nat)) (k : Nat) : eW (R.map srt) k = srt (eW R k) := by
  unfold eW
  rw [List.getD_eq_getElem?_getD, List.getD_eq_getElem?_getD, List.getElem?_map]
  cases R[k]? <;> rfl
theorem inc_srt (R : List (Nat × Nat)) (p k : Nat) : inc (eW (R.map srt)) p k = inc (eW R) p k := by
  rw [Bool.eq_iff_iff, inc_iff, inc_iff, eW_srt]
  unfold srt
  show min (eW R k).1 (eW R k).2 = p ∨ max (eW R k).1 (eW R k).2 = p ↔ _
  omega
theorem deg_srt (R : List (Nat × Nat)) (S : List Nat) (p : Nat) : deg (eW (R.map srt)) S p = deg (eW R) S p := by
  unfold deg
  congr 1
  funext k
  exact inc_srt R p k
theorem ring_srt (R : List (Nat × Nat)) (S : List Nat) : IsRing (eW (R.map srt)) S ↔ IsRing (eW R) S := by
  unfold IsRing
  simp only [deg_srt]
theorem GoodRows.web {many : Nat} {R : List (Nat × Nat)} (G : GoodRows many R) : WRows many (R.map srt) where
  one := G.one
  ten := G.ten
  len := by rw [List.length_map]; exact G.len
  pts := fun r hr => by
    obtain ⟨x, hx, rfl⟩ := List.mem_map.mp hr
    have := G.pts x hx
    unfold srt
    show min x.1 x.2 ≠ max x.1 x.2 ∧ min x.1 x.2 < many ∧ max x.1 x.2 < many
    omega
theorem last_filter (f : Nat → Bool) (k : Nat) : ∀ n, ((List.range n).filter f).getLast? = some k ↔ k < n ∧ f k = true ∧ ∀ j, k + 1 ≤ j → j < n → f j = false
  | 0 => by simp
  | n + 1 => by
    rw [List.range_succ, List.filter_append]
    by_cases h : f n = true
    · rw [List.filter_cons_of_pos h, List.filter_nil, List.getLast?_append]
      simp only [List.getLast?_singleton, Option.some_or, Option.some.injEq]
      constructor
      · rintro rfl
        exact ⟨Nat.lt_succ_self _, h, fun j h1 h2 => by omega⟩
      · rintro ⟨h1, h2, h3⟩
        rcases Nat.lt_or_ge k n with z | z
        · have := h3 n z (Nat.lt_succ_self _)
          rw [h] at this; cases this
        · omega
    · rw [List.filter_cons_of_neg h, List.filter_nil, List.append_nil, last_filter f k n]
      have h := Bool.not_eq_true _ ▸ h
      constructor
      · rintro ⟨h1, h2, h3⟩
        refine ⟨by omega, h2, fun j a b => ?_⟩
        rcases Nat.lt_or_ge j n with z | z
        · exact h3 j a z
        · rw [show j = n by omega]; exact h
      · rintro ⟨h1, h2, h3⟩
        refine ⟨?_, h2, fun j a b => h3 j a (by omega)⟩
        rcases Nat.lt_or_ge k n with z | z
        · exact z
        · rw [show k = n by omega, h] at h2; cases h2
theorem WRows.ok {many : Nat} {W : List (Nat × Nat)} (h : WRows many W) : WebOk many W.length (eW W) (loneP many W) (lastP W) where
  ties := fun k hk => h.pts _ (eW_mem hk)
  lone := fun p => by
    unfold loneP
    rw [List.mem_filter, List.mem_range, List.isEmpty_iff]
    refine and_congr Iff.rfl ?_
    unfold atP
    rw [List.filter_eq_nil_iff]
    constructor
    · intro z j _ hj
      exact Bool.not_eq_true _ ▸ z j (List.mem_range.mpr hj)
    · intro z j hj
      rw [z j (Nat.zero_le _) (List.mem_range.mp hj)]
      decide
  last := fun k hk p => by
    unfold lastP
    rw [List.mem_filter, beq_iff_eq]
    unfold atP
    rw [last_filter]
    constructor
    · rintro ⟨_, _, h2, h3⟩
      exact ⟨h2, h3⟩
    · rintro ⟨h2, h3⟩
      refine ⟨?_, hk, h2, h3⟩
      rcases inc_iff.mp h2 with z | z
      · simp [z]
      · simp [z]
section
variable {many : Nat} {R : List (Nat × Nat)} {S : List Nat}
theorem GoodRows.ne (G : GoodRows many R) (hn : ∀ x ∈ S, x < R.length) : ∀ t ∈ S, (eW R t).1 ≠ (eW R t).2 := fun t ht => (G.pts _ (eW_mem (hn t ht))).1
theorem GoodRows.accF (G : GoodRows many R) (hs : S.Pairwise (· < ·)) (hn : ∀ x ∈ S, x < R.length) : accW false many (R.map srt) S = decide (walk (eW R) S ≠ []) := by
  have hl : (R.map srt).length = R.length := List.length_map ..
  have h := acc_iff (all := false) G.web.ok hs (fun x hx => by rw [hl]; exact hn x hx)
  rw [ring_srt, ← ring_iff (hs.imp fun h => Nat.ne_of_lt h) (G.ne hn)] at h
  rw [Bool.eq_iff_iff, decide_eq_true_eq]
  exact h.trans ⟨fun z => z.1, fun z => ⟨z, fun q => (nomatch q)⟩⟩
theorem GoodRows.accT (G : GoodRows many R) (hs : S.Pairwise (· < ·)) (hn : ∀ x ∈ S, x < R.length) : accW true many (R.map srt) S = decide ((walk (eW R) S).length = many) := by
  have hl : (R.map srt).length = R.length := List.length_map ..
  have h := acc_iff (all := true) G.web.ok hs (fun x hx => by rw [hl]; exact hn x hx)
  have nd : S.Nodup := hs.imp fun h => Nat.ne_of_lt h
  have hb : ∀ t ∈ S, (eW R t).1 < many ∧ (eW R t).2 < many := fun t ht => (G.pts _ (eW_mem (hn t ht))).2
  rw [ring_srt, ← ring_iff nd (G.ne hn)] at h
  rw [Bool.eq_iff_iff, decide_eq_true_eq]
  refine h.trans ⟨fun z => (round_iff (G.ne hn) z.1 hb).mpr fun p hp => ?_, fun z => ?_⟩
  · rw [← deg_srt]; exact z.2 rfl p hp
  · have hne : walk (eW R) S ≠ [] := fun q => by
      rw [q] at z
      have := G.one
      simp at z
      omega
    refine ⟨hne, fun _ p hp => ?_⟩
    rw [deg_srt]
    exact (round_iff (G.ne hn) hne hb).mp z p hp
theorem walk_len (G : GoodRows many R) (hn : ∀ x ∈ S, x < R.length) (h : walk (eW R) S ≠ []) : (walk (eW R) S).length = S.length := (walk_deg (G.ne hn) h).2.1
theorem GoodRows.langT (G : GoodRows many R) : langW true many (R.map srt) = (langW false many (R.map srt)).filter fun X => decide (X.length = many) := by
  have hl : (R.map srt).length = R.length := List.length_map ..
  show lang _ _ _ _ _ = List.filter _ (lang _ _ _ _ _)
  rw [lang_eq, lang_eq, List.filter_filter]
  refine List.filter_congr fun X hX => ?_
  obtain ⟨h1, h2⟩ := mem_subs.mp hX
  have hn : ∀ x ∈ X, x < R.length := fun x hx => by have := (h2 x hx).2; omega
  show accW true many (R.map srt) X = (decide (X.length = many) && accW false many (R.map srt) X)
  rw [G.accT h1 hn, G.accF h1 hn]
  by_cases hw : walk (eW R) X = []
  · have := G.one
    rw [hw]
    have : ¬ (0 = many) := by omega
    simp [this]
  · rw [walk_len G hn hw]
    simp [hw]
theorem GoodRows.mem (G : GoodRows many R) (all : Bool) (hs : S.Pairwise (· < ·)) (hn : ∀ x ∈ S, x < R.length) : S ∈ langW all many (R.map srt) ↔ accW all many (R.map srt) S = true := by
  have hl : (R.map srt).length = R.length := List.length_map ..
  exact mem_lang hs fun x hx => ⟨Nat.zero_le _, by have := hn x hx; omega⟩
theorem GoodRows.sub (G : GoodRows many R) {all : Bool} (h : S ∈ langW all many (R.map srt)) : S.Pairwise (· < ·) ∧ ∀ x ∈ S, x < R.length := by
  have hl : (R.map srt).length = R.length := List.length_map ..
  obtain ⟨a, b⟩ := lang_sub h
  exact ⟨a, fun x hx => by have := (b x hx).2; omega⟩
theorem GoodRows.llen (G : GoodRows many R) (all : Bool) : (langW all many (R.map srt)).length ≤ 4096 := by
  refine Nat.le_trans (lang_len _ _ _) (Nat.le_trans (Nat.pow_le_pow_right (n := 2) (by decide) (show (R.map srt).length ≤ 12 from ?_)) (by decide))
  rw [List.length_map]; exact G.len
end
end Fw
end

section
set_option Elab.async false
set_option maxRecDepth 100000
set_option maxHeartbeats 4000000
set_option linter.all false
/-! D18: the law's sets, the law's asking. -/
namespace Fw
open PySem PySem.Spec PyProof.Rows L2
theorem ok_law_right {P : Program} {w : World} {K : PySem.W.Frag} {mg : Str → Option Value} {base : Heap} {A : Ad} (T : Txt K mg A) : FnOk P w K mg base CX0 5 A.f_law_right A.d_law_right ["_law_web_here", "_law_rule", "_law_sieve", "_law_some", "_law_due", "_law_asked"] (sp_law_right A) := by
  have G_R_fits : ∀ all : Bool, FnOk P w K mg base CX0 4 A.f_Rule_fits A.d_Rule_fits ["self", "web", "some"] (sp_Rule_fits K A all) := fun all => ok_Rule_fits T all
  have G_has_set : FnOk P w K mg base CX0 3 A.f_has_set A.d_has_set ["sieve", "some"] (sp_has_set A) := ok_has_set T
  refine T.F_law_right.ok sc_law_right (fun vs H Q E h => ?_) (fun cdv A' outer s H vs Q E hr h => ?_)
  · obtain ⟨all, due, asked, wb, rl, sv, v, m, n, t, W, rows, S, rfl, _⟩ := h
    rfl
  · obtain ⟨all, due, asked, wb, rl, sv, v, m, n, t, W, rows, S, rfl, hrl, hW, hWR, hsv, Vr, ht, hv, hS, e1, e2, k⟩ := h
    refine ⟨_, (pss_cons (ps_if (pw_and (pt_val (pv 5)) (pw_and1 (pt_cmpR op_ne (pe_meth (pv 1) (T.cl_R all) (T.m_R_fits all) (G_R_fits all) (hr.mono (by decide)) T.b_Rule_fits .nil pass0 (pa_cons (pv 0) (pa_cons (pv 3) pa_nil))) (pv 4) (nomark _)))).pt
(pss_one (ps_ret pe_bl))
pss_nil)
(pss_one (ps_ret (pe_cmpR op_eq (pe_call G_has_set (hr.mono (by decide)) (by rfl) T.g_has_set T.F_has_set.kp T.b_has_set .nil pass0 (pa_cons (pv 2) (pa_cons (pv 3) pa_nil))) (pv 4) (nomark _))))), ?_⟩
    obtain ⟨a, rfl, ha⟩ := id hv
    obtain ⟨dx, hp⟩ := id hrl
    refine ⟨_, rfl, _, rfl, iteB (fun _ => ?gA) (fun _ => iteN rfl ?gB)⟩
    case' gB => have s1 := Same.refl H
    case' gA =>
      refine ⟨_, rfl, rl, dx, _, rfl, hp, rfl, _, rfl, _, rfl, rl, wb, a, m, W, S, rfl, hrl, hW, hWR, .inr (SqT.of ha), fun H1 s1 => ?_⟩
      refine ⟨_, rfl, rfl, _, rfl, iteN (by rw [e1]; simp) ?_⟩
    all_goals
      refine ⟨_, rfl, _, rfl, sv, n, t, rows, .ref a, S, rfl, hsv.same s1, Vr, ht, hv.kt s1.kt, hS, fun H2 s2 => ?_⟩
      refine ⟨_, rfl, rfl, ?_⟩
      have e3 : decide (V.bl (decide (S ∈ setsAt rows t)) = V.bl due) = true := by rw [e2]; simp
      rw [e3]
      exact k H2 (s1.trans s2)
theorem ok_law_set {P : Program} {w : World} {K : PySem.W.Frag} {mg : Str → Option Value} {base : Heap} {A : Ad} (T : Txt K mg A) : FnOk P w K mg base CX0 2 A.f_law_set A.d_law_set ["_law_many", "_law_rows_here", "_law_told", "_law_cell", "_law_k"] (sp_law_set) := by
  have G_law_walked : FnOk P w K mg base CX0 1 A.f_law_walked A.d_law_walked ["_law_many", "_law_rows_here", "_law_cell"] (sp_law_walked) := ok_law_walked T
  have G_law_bits : FnOk P w K mg base CX0 1 A.f_law_bits A.d_law_bits ["_law_rows_here", "_law_cell"] (sp_law_bits) := ok_law_bits T
  refine T.F_law_set.ok sc_law_set (fun vs H Q E h => ?_) (fun cdv A' outer s H vs Q E hr h => ?_)
  · obtain ⟨l, t, c, m, kk, R, L, rfl, _⟩ := h
    rfl
  · obtain ⟨l, t, c, m, kk, R, L, rfl, hl, G, ht, hL4, hL, k⟩ := h
    have hu := hu_of hr
    refine ⟨_, (pss_cons (ps_if (pw_and (pt_cmpR op_eq (pe_op op_modN (pv 4) pe_int) pe_int (nomark _)) (pw_and (pt_cmpR (ned (K := K) hr.units) (pv 2) (pe_lst pa_nil) (nomark _)) (pw_and1 (pt_cmpR (ned (K := K) hr.units) (pv 1) (pe_lst pa_nil) (nomark _))))).pt
(pss_cons (ps_set (i := 5) sc_law_set.nd rfl (by first | exact Or.inl rfl | exact Or.inr rfl) (pe_ix (ixl (K := K)) (pv 2) (pe_op op_modN (pv 3) (pe_callB (lens (K := K)) (by rfl) T.z_len (by decide +kernel) (pa_cons (pv 2) pa_nil))) (fun _ _ => rfl)))
(pss_cons (ps_set (i := 6) sc_law_set.nd rfl (by first | exact Or.inl rfl | exact Or.inr rfl) (pe_op op_modN (pe_op op_fdivN (pv 3) (pe_callB (lens (K := K)) (by rfl) T.z_len (by decide +kernel) (pa_cons (pv 2) pa_nil))) (pe_op op_mul pe_int (pe_callB (lens (K := K)) (by rfl) T.z_len (by decide +kernel) (pa_cons (pv 1) pa_nil)))))
(pss_cons (ps_if (pt_cmpR (inq (K := K)) (pv 6) (pv 5) (by rfl))
(pss_one (ps_ret (pe_callTy (tupof (K := K)) (by rfl) T.z_tuple (by decide +kernel) (pa_cons (pe_lc (own := [("_law_one", 7)]) rfl sc_law_set.nd (pit (K := K) (pv 5)) (blkOk_by (N := ["_law_many", "_law_rows_here", "_law_told", "_law_cell", "_law_k", "_law_some", "_law_tie", "_law_one"]) (sc := defScope s_law_set) (by decide +kernel)) (fun _ _ _ _ _ => (pg_name (i := 7) sc_law_set.nd rfl (by first | exact Or.inl rfl | exact Or.inr rfl))) (fun _ _ _ _ _ => (pts_one (pt_cmpR op_ne (pv 7) (pv 6) (nomark _)))) (fun _ _ _ _ _ => (pv 7))) pa_nil))))
pss_nil)
(pss_cons (ps_if (pt_cmpR op_lt (pv 6) (pe_callB (lens (K := K)) (by rfl) T.z_len (by decide +kernel) (pa_cons (pv 1) pa_nil)) (nomark _))
(pss_one (ps_ret (pe_callTy (tupof (K := K)) (by rfl) T.z_tuple (by decide +kernel) (pa_cons (pe_callB cr_sortedTI (by rfl) T.z_sorted (by decide +kernel) (pa_cons (pe_op (catt (K := K)) (pv 5) (pe_tup (pa_cons (pv 6) pa_nil))) pa_nil)) pa_nil))))
pss_nil)
(pss_one (ps_ret (pv 5)))))))
pss_nil)
(pss_cons (ps_if (pt_cmpR op_eq (pe_op op_modN (pv 4) pe_int) pe_int (nomark _))
(pss_one (ps_ret (pe_call G_law_walked (hr.mono (by decide)) (by rfl) T.g_law_walked T.F_law_walked.kp T.b_law_walked .nil pass0 (pa_cons (pv 0) (pa_cons (pv 1) (pa_cons (pv 3) pa_nil))))))
pss_nil)
(pss_one (ps_ret (pe_call G_law_bits (hr.mono (by decide)) (by rfl) T.g_law_bits T.F_law_bits.kp T.b_law_bits .nil pass0 (pa_cons (pv 1) (pa_cons (pv 3) pa_nil))))))), ?_⟩
    refine ⟨_, rfl, _, _, rfl, rfl, (by show (3 : Int) ≠ 0; decide), rfl, _, rfl, iteB (fun _ => ?gM) (fun _ => iteN rfl ?gR1)⟩
    case' gR1 => have sx := Same.refl H
    case' gM =>
      refine ⟨_, rfl, Nat.zero_le _, fun p hp => ?_⟩
      have s1 := Same_new (o := .lst []) hp
      have hp1 : LL (upd H p (.lst [])) p [] := ⟨[], upd_same, .nil⟩
      generalize (upd H p (.lst [])) = H1 at s1 hp1
      refine ⟨_, _, (ht.same s1).dp, hp1.dp, shL _, shL _, _, rfl, ?_⟩
      rw [eqvL]
      refine iteB (fun hc1 => ?gM2) (fun _ => iteN rfl ?gR2)
    case' gR2 => have sx := s1
    case' gM2 =>
      refine ⟨_, rfl, Nat.zero_le _, fun p2 hp2 => ?_⟩
      have s12 := Same_new (o := .lst []) hp2
      have hp3 : LL (upd H1 p2 (.lst [])) p2 [] := ⟨[], upd_same, .nil⟩
      generalize (upd H1 p2 (.lst [])) = H2 at s12 hp3
      have s2 := s1.trans s12
      refine ⟨_, _, (hl.same s2).dp, hp3.dp, shL _, shL _, _, rfl, ?_⟩
      rw [eqvL]
      refine iteB (fun hc2 => ?gM3) (fun _ => ?gR3)
    case' gR3 => have sx := s2
    case gM3 =>
      have hLpos : 0 < L.length := by
        cases L with
        | nil => simp at hc1
        | cons a L => simp
      have hRpos : 0 < R.length := by
        cases R with
        | nil => simp at hc2
        | cons a L => simp
      have h12 := G.len
      obtain ⟨ts, hts, hTI⟩ := ht.same s2
      obtain ⟨us, hus, hUI⟩ := hl.same s2
      have htl : ts.length = L.length := by rw [hTI.len, List.length_map]
      have hul : us.length = R.length := by rw [hUI.len, List.length_map]
      have hn1 : ((ts.length : Nat) : Int) ≠ 0 := by omega
      obtain ⟨j, hj, ej⟩ := fmod_nat c (n := ts.length) (by omega)
      have eL : L[j]? = some (L[j]'(by omega)) := List.getElem?_eq_getElem _
      generalize L[j]'(by omega) = S at eL
      obtain ⟨hSso, hSb⟩ := hL S (List.mem_of_getElem? eL)
      obtain ⟨y, hy, a, rfl, ha⟩ := hTI.at (show (L.map nI)[j]? = some (nI S) by rw [List.getElem?_map, eL]; rfl)
      have hSl : S.length ≤ 12 := by
        have := nd_le (l := S) (m := List.range R.length) (hSso.imp fun h => Nat.ne_of_lt h) fun x hx => List.mem_range.mpr (hSb x hx)
        rw [List.length_range] at this
        omega
      refine ⟨_, rfl, _, rfl, _, rfl, t, _, rfl, .inl (SqL.of hts), _, _, rfl, rfl, hn1, t, ts, _, _, rfl, rfl, SqL.of hts, (by rw [ej]; exact atI_nat hy), ?_⟩
      obtain ⟨tt, htt, ett⟩ := fmod_nat (c.fdiv (ts.length : Int)) (n := 2 * us.length) (by omega)
      have e2u : ((2 * us.length : Nat) : Int) = 2 * (us.length : Int) := by omega
      rw [e2u] at ett
      refine ⟨_, rfl, _, rfl, t, _, rfl, .inl (SqL.of hts), _, _, rfl, rfl, ⟨hn1, by omega⟩, _, rfl, l, _, rfl, .inl (SqL.of hus), _, _, rfl, rfl, .inl ⟨by decide, by decide⟩, _, _, rfl, rfl, (show (2 * (us.length : Int)) ≠ 0 by omega), ?_⟩
      refine ⟨_, rfl, _, rfl, a, _, rfl, .inr (SqT.of ha), rfl, flatInts _, _, rfl, ?_⟩
      refine iteB (fun hc => ?_) (fun hc => ?_)
      · refine ⟨_, rfl, a, rfl, ⟨_, SqT.of ha⟩, fun D hD => ?_⟩
        refine lc_tup (K := K) (a := a) (xs := (nI S).map V.int) (fun i H4 => Same H2 H4 ∧ H4 D = some (.lst ((nI ((S.take i).filter fun x => decide (x ≠ tt))).map V.int))) ⟨Same_new hD, upd_same⟩ (fun i H4 _ q => SqT.of (q.1 _ _ ha)) ?_ ?_
        · rintro i y H4 hi ⟨s4, hD4⟩
          obtain ⟨x, ex, rfl⟩ := nI_at hi
          refine ⟨rfl, _, rfl, _, rfl, rfl, _, rfl, ?_⟩
          have etk := take_snoc ex
          have hfl : ((S.take i).filter fun x => decide (x ≠ tt)).length ≤ 12 := Nat.le_trans (List.length_filter_le _ _) (Nat.le_trans (List.length_take_le _ _) (show i ≤ 12 by
            have hle : i < S.length := (List.getElem?_eq_some_iff.mp ex).1
            omega))
          refine iteB (fun hc => ?_) (fun hc => ?_)
          · have hc : (!decide (V.int (x : Int) = V.int ((c.fdiv (ts.length : Int)).fmod (2 * (us.length : Int))))) = true := hc
            rw [dInt, ett] at hc
            have hne : x ≠ tt := fun z => by rw [z] at hc; simp at hc
            refine ⟨_, rfl, _, hD4, szl (by rw [nI_len]; omega), s4.mut hD, ?_⟩
            rw [upd_same, etk, List.filter_append]
            simp [nI, hne]
          · have hc : (!decide (V.int (x : Int) = V.int ((c.fdiv (ts.length : Int)).fmod (2 * (us.length : Int))))) = false := hc
            rw [dInt, ett] at hc
            have hne : x = tt := Int.ofNat.inj (not_false_dec hc)
            refine ⟨s4, ?_⟩
            rw [hD4, etk, List.filter_append]
            simp [nI, hne]
        · rintro H4 ⟨s4, hD4⟩
          rw [nI_len, List.take_length] at hD4
          refine ⟨D, _, rfl, SqL.of hD4, fun q hq => ?_⟩
          exact k (.ref q) (S.filter fun x => decide (x ≠ tt)) _ ((s2.trans s4).newer hq) ⟨q, rfl, upd_same⟩ (hSso.filter _) (fun x hx => hSb x (List.mem_filter.mp hx).1)
      · have hnS : tt ∉ S := fun z => by
          have hc : inV (.int ((c.fdiv (ts.length : Int)).fmod (2 * (us.length : Int)))) ((nI S).map V.int) = false := hc
          rw [ett, inNats] at hc
          rw [List.contains_iff_mem.mpr z] at hc
          cases hc
        refine ⟨_, rfl, _, rfl, l, _, rfl, .inl (SqL.of hus), _, _, rfl, rfl, _, rfl, iteB (fun hc => ?_) (fun hc => ⟨_, rfl, k (.ref a) S H2 s2 ⟨a, rfl, ha⟩ hSso hSb⟩)⟩
        have htR : tt < R.length := by
          have hc : decide (((c.fdiv (ts.length : Int)).fmod (2 * (us.length : Int))) < (us.length : Int)) = true := hc
          rw [ett] at hc
          have := of_decide_eq_true hc
          omega
        have fin : ∀ (H3 : Hp) (z : Addr), Same H2 H3 → H3 z = some (.tup ((nI (S ++ [tt])).map V.int)) → ∀ Q : VK, SomeSet R.length H Q → ∀ (ms : List Int) (p : Addr), ms.Perm (nI (S ++ [tt])) → ms.Pairwise (· ≤ ·) → H3 p = Option.none → ∃ pp ys, [V.ref p] = [V.ref pp] ∧ SqL K (upd H3 p (.lst (ms.map V.int))) pp ys ∧ ∀ q, (upd H3 p (.lst (ms.map V.int))) q = Option.none → Q (.ref q) (upd (upd H3 p (.lst (ms.map V.int))) q (.tup ys)) := fun H3 z s3 hz Q k ms p hpe hso hp => by
          refine ⟨p, _, rfl, SqL.of upd_same, fun q hq => ?_⟩
          have nd2 : (S ++ [tt]).Nodup := by
            rw [List.nodup_append]
            exact ⟨hSso.imp fun h => Nat.ne_of_lt h, by simp, fun w hw b hb z => by rw [List.mem_singleton.mp hb] at z; rw [z] at hw; exact hnS hw⟩
          obtain ⟨S', rfl, hS', hsub⟩ := sorted_set nd2 hpe hso
          refine k (.ref q) S' _ (((s2.trans s3).newer hp).newer hq) ⟨q, rfl, upd_same⟩ hS' fun x hx => ?_
          rcases mem_last (hsub x hx) with z | z
          · exact hSb x z
          · rw [z]; exact htR
        refine ⟨_, rfl, _, rfl, by show 1 ≤ sizeLine; decide, fun q hq => ?_⟩
        have s23 := Same_new (o := .tup [.int ((c.fdiv (ts.length : Int)).fmod (2 * (us.length : Int)))]) hq
        have hq3 : (upd H2 q (.tup [.int ((c.fdiv (ts.length : Int)).fmod (2 * (us.length : Int)))])) q = some (.tup [.int (tt : Int)]) := by rw [← ett]; exact upd_same
        generalize (upd H2 q (.tup [.int ((c.fdiv (ts.length : Int)).fmod (2 * (us.length : Int)))])) = H3 at s23 hq3
        refine ⟨a, q, _, _, rfl, rfl, SqT.of (s23 _ _ ha), SqT.of hq3, sz (by rw [nI_len]; simp; omega), fun e => ?_, fun _ e => (nomatch e), fun _ _ z hz => ?_⟩
        · have hS0 : S = [] := by
            cases S with
            | nil => rfl
            | cons x S => simp [nI] at e
          subst hS0
          exact ⟨q, nI [tt], rfl, SqT.of hq3, fin H3 q s23 hq3 _ k⟩
        · have e3 : (nI S).map V.int ++ [V.int (tt : Int)] = (nI (S ++ [tt])).map V.int := by simp [nI]
          rw [e3]
          exact ⟨z, nI (S ++ [tt]), rfl, SqT.of upd_same, fin _ z (s23.newer hz) upd_same _ k⟩
    all_goals
      refine ⟨_, rfl, _, _, rfl, rfl, (by show (3 : Int) ≠ 0; decide), rfl, _, rfl, iteB (fun _ => ?_) (fun _ => ?_)⟩
      · exact ⟨_, rfl, _, rfl, _, rfl, l, c, m, R, rfl, hl.same sx, G, fun v S H' s' a b d => k v S H' (sx.trans s') a b d⟩
      · exact ⟨_, rfl, _, rfl, l, c, R, rfl, hl.same sx, G.len, fun v S H' s' a b d => k v S H' (sx.trans s') a b d⟩
end Fw
end

section
set_option Elab.async false
set_option maxRecDepth 100000
set_option maxHeartbeats 4000000
set_option linter.all false
/-! D19: the law's other web. -/
namespace Fw
open PySem PySem.Spec PyProof.Rows L2
theorem ITs.rev {H : Hp} {vs : List V} {L : List (List Int)} (h : ITs H vs L) : ITs H vs.reverse L.reverse := by
  induction h with
  | nil => exact .nil
  | cons a t ih =>
    rw [List.reverse_cons, List.reverse_cons]
    exact ih.snoc a
theorem GoodRows.part {many : Nat} {R O : List (Nat × Nat)} (G : GoodRows many R) (h : O.Sublist R) : GoodRows many O.reverse where
  one := G.one
  ten := G.ten
  len := by rw [List.length_reverse]; exact Nat.le_trans h.length_le G.len
  pts := fun r hr => G.pts r (h.subset (List.mem_reverse.mp hr))
  nd := by
    rw [List.map_reverse]
    exact (List.reverse_perm _).nodup_iff.mpr ((h.map srt).nodup G.nd)
theorem ok_law_elsewhere {P : Program} {w : World} {K : PySem.W.Frag} {mg : Str → Option Value} {base : Heap} {A : Ad} (T : Txt K mg A) : FnOk P w K mg base CX0 7 A.f_law_elsewhere A.d_law_elsewhere ["_law_rules", "_law_many", "_law_rows_here"] (sp_law_elsewhere A) := by
  have G_Web_init : FnOk P w K mg base CX0 2 A.f_Web_init A.d_Web_init ["self", "many", "ties"] (sp_Web_init K A) := ok_Web_init T
  have G_sets_of : FnOk P w K mg base CX0 3 A.f_sets_of A.d_sets_of ["sieve"] (sp_sets_of A) := ok_sets_of T
  have G_grown : FnOk P w K mg base CX0 6 A.f_grown A.d_grown ["web", "rule"] (sp_grown A) := ok_grown T
  have G_law_round : FnOk P w K mg base CX0 1 A.f_law_round A.d_law_round ["_law_rows_here", "_law_some"] (sp_law_round) := ok_law_round T
  have G_R_fits : ∀ all : Bool, FnOk P w K mg base CX0 4 A.f_Rule_fits A.d_Rule_fits ["self", "web", "some"] (sp_Rule_fits K A all) := fun all => ok_Rule_fits T all
  refine T.F_law_elsewhere.ok sc_law_elsewhere (fun vs H Q E h => ?_) (fun cdv A' outer s H vs Q E hr h => ?_)
  · obtain ⟨rs, r0, r1, l, m, R, rfl, _⟩ := h
    rfl
  · obtain ⟨rs, r0, r1, l, m, R, rfl, hrs, hr0, hr1, ⟨us, hl, hI⟩, G, k⟩ := h
    have hu := hu_of hr
    refine ⟨_, (pss_cons (ps_setLc (i := 3) (own := [("_law_k", 6), ("_law_row", 7)]) rfl sc_law_elsewhere.nd rfl rfl (sw_true rfl rfl rfl (by decide +kernel)) (pien (K := K) (by rfl) T.z_enumerate (pa_cons (pv 2) pa_nil)) (blkOk_by (N := ["_law_rules", "_law_many", "_law_rows_here", "_law_others", "_law_other", "_law_some", "_law_k", "_law_row"]) (sc := defScope s_law_elsewhere) (by decide +kernel)) (fun _ _ _ _ _ => (pgt (K := K) (n := 2) rfl (pgs_cons (pg_name (i := 6) sc_law_elsewhere.nd rfl (by first | exact Or.inl rfl | exact Or.inr rfl)) (pgs_cons (pg_name (i := 7) sc_law_elsewhere.nd rfl (by first | exact Or.inl rfl | exact Or.inr rfl)) pgs_nil)))) (fun _ _ _ _ _ => (pts_one (pt_cmpR op_ne (pe_op op_modN (pv 6) pe_int) pe_int (nomark _)))) (fun _ _ _ _ _ => (pv 7)))
(pss_cons (ps_expr (pe_bm0 PySem.F.plainAttrs_list PySem.F.slot_list_reverse PySem.F.type_list_reverse mt_reverse (pv 3)))
(pss_cons (ps_set (i := 4) sc_law_elsewhere.nd rfl (by first | exact Or.inl rfl | exact Or.inr rfl) (pe_make T.mk_Web G_Web_init (hr.mono (by decide)) (by rfl) T.g_Web T.b_Web_init .nil pass0 (pa_cons (pv 1) (pa_cons (pv 3) pa_nil))))
(pss_cons (ps_for PassesOwn.never rfl (pil (K := K) (pe_call G_sets_of (hr.mono (by decide)) (by rfl) T.g_sets_of T.F_sets_of.kp T.b_sets_of .nil pass0 (pa_cons (pe_call G_grown (hr.mono (by decide)) (by rfl) T.g_grown T.F_grown.kp T.b_grown .nil pass0 (pa_cons (pv 4) (pa_cons (pe_ix (ixl (K := K)) (pv 0) pe_int (fun _ _ => rfl)) pa_nil))) pa_nil))) (pg_name (i := 5) sc_law_elsewhere.nd rfl (by first | exact Or.inl rfl | exact Or.inr rfl))
(pss_one (ps_if (pw_or (pt_cmpR (eqd (K := K) hr.units) (pe_call G_law_round (hr.mono (by decide)) (by rfl) T.g_law_round T.F_law_round.kp T.b_law_round .nil pass0 (pa_cons (pv 3) (pa_cons (pv 5) pa_nil))) (pe_lst pa_nil) (nomark _)) (pw_or1 (pt_not (pt_val (pe_meth (pe_ix (ixl (K := K)) (pv 0) pe_int (fun _ _ => rfl)) (T.cl_R false) (T.m_R_fits false) (G_R_fits false) (hr.mono (by decide)) T.b_Rule_fits .nil pass0 (pa_cons (pv 4) (pa_cons (pe_callTy (lstof (K := K)) (by rfl) T.z_list (by decide +kernel) (pa_cons (pv 5) pa_nil)) pa_nil))))))).pt
(pss_one (ps_ret pe_bl))
pss_nil)))
(pss_cons (ps_for PassesOwn.never rfl (pil (K := K) (pe_call G_sets_of (hr.mono (by decide)) (by rfl) T.g_sets_of T.F_sets_of.kp T.b_sets_of .nil pass0 (pa_cons (pe_call G_grown (hr.mono (by decide)) (by rfl) T.g_grown T.F_grown.kp T.b_grown .nil pass0 (pa_cons (pv 4) (pa_cons (pe_ix (ixl (K := K)) (pv 0) pe_int (fun _ _ => rfl)) pa_nil))) pa_nil))) (pg_name (i := 5) sc_law_elsewhere.nd rfl (by first | exact Or.inl rfl | exact Or.inr rfl))
(pss_one (ps_if (pw_or (pt_cmpR op_ne (pe_callB (lens (K := K)) (by rfl) T.z_len (by decide +kernel) (pa_cons (pe_call G_law_round (hr.mono (by decide)) (by rfl) T.g_law_round T.F_law_round.kp T.b_law_round .nil pass0 (pa_cons (pv 3) (pa_cons (pv 5) pa_nil))) pa_nil)) (pv 1) (nomark _)) (pw_or1 (pt_not (pt_val (pe_meth (pe_ix (ixl (K := K)) (pv 0) pe_int (fun _ _ => rfl)) (T.cl_R true) (T.m_R_fits true) (G_R_fits true) (hr.mono (by decide)) T.b_Rule_fits .nil pass0 (pa_cons (pv 4) (pa_cons (pv 5) pa_nil))))))).pt
(pss_one (ps_ret pe_bl))
pss_nil)))
(pss_one (ps_ret pe_bl))))))), ?_⟩
    have h12 := G.len
    have hul : us.length = R.length := by rw [hI.len, List.length_map]
    refine ⟨_, rfl, l, us, rfl, SqL.of hl, fun D hD => ?_⟩
    refine lc_it (walk_enum (K := K) (a := l) (xs := us)) (fun i H1 => Same H H1 ∧ ∃ vs O, H1 D = some (.lst vs) ∧ ITs H1 vs (O.map rI) ∧ O.Sublist (R.take i)) ⟨Same_new hD, [], [], upd_same, .nil, List.Sublist.refl _⟩ (fun i H1 _ q => SqL.of (q.1 _ _ hl)) ?_ ?_
    · rintro i y H1 H2 hi ⟨s1, vs, O, hD1, hO, hsub⟩ ⟨t, y1, y2, rfl, ht, rfl, e1, e2⟩
      cases e1
      have hiR : i < R.length := by omega
      have er : R[i]? = some R[i] := List.getElem?_eq_getElem hiR
      generalize R[i] = r at er
      obtain ⟨ns, e3, a, rfl, ha⟩ := hI.get e2
      rw [List.getElem?_map, er] at e3
      cases e3
      refine ⟨t, _, rfl, SqT.of upd_same, rfl, _, _, rfl, _, _, rfl, rfl, rfl, ?_⟩
      have s12 := Same_new (o := .tup [.int i, .ref a]) ht
      generalize (upd H1 t (.tup [.int i, .ref a])) = H2 at s12
      have s2 := s1.trans s12
      have hD2 := s12 _ _ hD1
      have hO2 := hO.kt s12.kt
      have hvl : vs.length ≤ 12 := by
        rw [hO.len, List.length_map]
        have := hsub.length_le
        rw [List.length_take] at this
        omega
      refine ⟨_, rfl, _, _, rfl, rfl, (by show (3 : Int) ≠ 0; decide), rfl, _, rfl, iteB (fun _ => ?_) (fun _ => ?_)⟩
      · refine ⟨_, rfl, vs, hD2, szl (by omega), s2.mut hD, vs ++ [.ref a], O ++ [r], upd_same, ?_, ?_⟩
        · rw [List.map_append]
          have kt := KT.mut (o := .lst (vs ++ [.ref a])) hD2 trivial
          exact (hO2.kt kt).snoc ⟨a, rfl, kt _ _ (s2 _ _ ha)⟩
        · rw [take_snoc er]
          exact hsub.append (List.Sublist.refl _)
      · exact ⟨s2, vs, O, hD2, hO2, by rw [take_snoc er]; exact hsub.trans (List.sublist_append_left _ _)⟩
    rintro H1 ⟨s1, vs, O, hD1, hO, hsub⟩
    rw [hul, List.take_length] at hsub
    have G2 := G.part hsub
    have hW2 := G2.web
    have hO := hO.rev
    rw [← List.map_reverse] at hO
    generalize O.reverse = Z at G2 hW2 hO
    refine ⟨_, rfl, .inl ⟨rfl, _, SqL.of hD1⟩, D, vs, rfl, rfl, hD1, ?_⟩
    have kt := KT.mut (o := .lst vs.reverse) hD1 trivial
    have s2 := s1.mut (o := .lst vs.reverse) hD
    have hD2 : LL (upd H1 D (.lst vs.reverse)) D (Z.map rI) := ⟨_, upd_same, hO.kt kt⟩
    generalize (upd H1 D (.lst vs.reverse)) = H2 at s2 hD2
    refine ⟨_, rfl, _, rfl, ?_⟩
    intro x dx nx ndx nex
    have sM : ∀ o o', Same H2 (upd (upd H2 dx o) x o') := fun o o' b u e => by
      rw [upd_ne (ne_of_none e nx), upd_ne (ne_of_none e ndx)]; exact e
    obtain ⟨zs, hzs, hzI⟩ := hD2.same (sM (.own x) (.ins A.c_Web dx []))
    refine ⟨x, dx, D, m, zs, Z, rfl, upd_same, SqL.of hzs, hzI, G2, fun H3 hW hb => ⟨rfl, ?_⟩⟩
    have s3 : Same H H3 := s2.trans fun b o e => hb b o (sM _ _ b o e) (ne_of_none e nx)
    have hD3 : LL H3 D (Z.map rI) := hD2.same fun b o e => hb b o (sM _ _ b o e) (ne_of_none e nx)
    have hWl : (Z.map srt).length ≤ 12 := hW2.len
    refine ⟨_, rfl, _, rfl, rs, _, _, _, rfl, rfl, SqL.of (s3 _ _ hrs), atI_nat (j := 0) rfl, false, r0, x, m, Z.map srt, rfl, hr0.same s3, hW, hW2, fun p rows t H4 s4 hS Vr hlen ht eset _ => ?_⟩
    refine ⟨p, _, t, rows, rfl, hS, Vr, hWl, hlen, ht, fun q H5 s5 hq => ?_⟩
    rw [eset] at hq
    obtain ⟨qs, hqs, hqI⟩ := hq
    have s35 := s4.trans s5
    refine ⟨q, rfl, ⟨_, SqL.of hqs⟩, for_list (K := K) (a := q) (xs := qs) (fun j σ H6 => ∃ v5 v6 v7, σ = [some (.ref rs), some (.int m), some (.ref l), some (.ref D), some (.ref x), v5, v6, v7] ∧ Same H5 H6)
      ⟨_, _, _, rfl, Same.refl _⟩ (fun j σ H6 _ ⟨_, _, _, _, z⟩ => SqL.of (z _ _ hqs)) ?_ ?_⟩
    · rintro j y σ H6 hj ⟨v5, v6, v7, rfl, s56⟩
      obtain ⟨ns, e3, hy⟩ := hqI.get hj
      rw [List.getElem?_map] at e3
      obtain ⟨S, eS, rfl⟩ := Option.map_eq_some_iff.mp e3
      have hSm := List.mem_of_getElem? eS
      obtain ⟨hso, hSb⟩ := G2.sub hSm
      have hacc := (G2.mem false hso hSb).mp hSm
      have hw := G2.accF hso hSb
      rw [hacc] at hw
      have hw := of_decide_eq_true hw.symm
      have s36 := s35.trans s56
      have s06 := s3.trans s36
      have hy6 := hy.kt s56.kt
      refine ⟨_, rfl, _, rfl, D, y, m, Z, S, rfl, hD3.same s36, G2.pts, G2.len, hy6, hso, hSb, fun q' H7 s7 hq' => ?_⟩
      refine ⟨Nat.zero_le _, fun p' hp' => ?_⟩
      have s78 := Same_new (o := .lst []) hp'
      have hp8 : (upd H7 p' (.lst [])) p' = some (.lst []) := upd_same
      generalize (upd H7 p' (.lst [])) = H8 at s78 hp8
      refine ⟨_, _, dpIL (SqL.of (s78 _ _ hq')), dpIL (ns := []) (SqL.of hp8), shIL _, shIL [], _, rfl, ?_⟩
      rw [eqvIL]
      refine iteN (decide_eq_false fun z => hw (by
        cases ew : walk (eW Z) S with
        | nil => rfl
        | cons a b => rw [ew] at z; cases z)) ?_
      have s68 := s7.trans s78
      have s08 := s06.trans s68
      have s38 := s36.trans s68
      obtain ⟨ya, rfl, hya⟩ := hy6.kt s68.kt
      obtain ⟨dx8, hp0⟩ := hr0.same s08
      refine ⟨_, rfl, rs, _, _, _, rfl, rfl, SqL.of (s08 _ _ hrs), atI_nat (j := 0) rfl, r0, dx8, _, rfl, hp0, rfl, _, rfl, _, rfl, ya, _, rfl, .inr (SqT.of hya), fun ll hll => ?_⟩
      have s89 := Same_new (o := .lst ((nI S).map V.int)) hll
      refine ⟨r0, x, ll, m, Z.map srt, S, rfl, (hr0.same s08).same s89, (hW.same s38).same s89, hW2, .inl (SqL.of upd_same), fun H10 s10 => ?_⟩
      refine ⟨_, rfl, iteN (by rw [hacc]; rfl) ?_⟩
      exact ⟨_, _, _, rfl, s56.trans (s68.trans (s89.trans s10))⟩
    rintro σ H6 ⟨v5, v6, v7, rfl, s56⟩
    have s36 := s35.trans s56
    have s6 := s3.trans s36
    have hD6 := hD3.same s36
    have hW6 := hW.same s36
    clear s4 s5 hS Vr hlen ht eset hqs hqI s35 s56 s36
    refine ⟨_, rfl, _, rfl, rs, _, _, _, rfl, rfl, SqL.of (s6 _ _ hrs), atI_nat (j := 1) rfl, true, r1, x, m, Z.map srt, rfl, hr1.same s6, hW6, hW2, fun p rows t H7 s7 hS Vr hlen ht eset _ => ?_⟩
    refine ⟨p, _, t, rows, rfl, hS, Vr, hWl, hlen, ht, fun q H8 s8 hq => ?_⟩
    rw [eset] at hq
    obtain ⟨qs, hqs, hqI⟩ := hq
    have s68 := s7.trans s8
    refine ⟨q, rfl, ⟨_, SqL.of hqs⟩, for_list (K := K) (a := q) (xs := qs) (fun j σ H9 => ∃ v5 v6 v7, σ = [some (.ref rs), some (.int m), some (.ref l), some (.ref D), some (.ref x), v5, v6, v7] ∧ Same H8 H9)
      ⟨_, _, _, rfl, Same.refl _⟩ (fun j σ H6 _ ⟨_, _, _, _, z⟩ => SqL.of (z _ _ hqs)) ?_ ?_⟩
    · rintro j y σ H9 hj ⟨v5, v6, v7, rfl, s89⟩
      obtain ⟨ns, e3, hy⟩ := hqI.get hj
      rw [List.getElem?_map] at e3
      obtain ⟨S, eS, rfl⟩ := Option.map_eq_some_iff.mp e3
      have hSm := List.mem_of_getElem? eS
      obtain ⟨hso, hSb⟩ := G2.sub hSm
      have hacc := (G2.mem true hso hSb).mp hSm
      have hw := G2.accT hso hSb
      rw [hacc] at hw
      have hw := of_decide_eq_true hw.symm
      have s69 := s68.trans s89
      have s09 := s6.trans s69
      have hy9 := hy.kt s89.kt
      refine ⟨_, rfl, _, rfl, D, y, m, Z, S, rfl, hD6.same s69, G2.pts, G2.len, hy9, hso, hSb, fun q' H10 s10 hq' => ?_⟩
      refine ⟨q', _, rfl, .inl (SqL.of hq'), _, rfl, rfl, _, rfl, ?_⟩
      rw [dInt, nI_len, hw]
      refine iteN (by simp) ?_
      have s010 := s09.trans s10
      obtain ⟨ya, rfl, hya⟩ := hy9.kt s10.kt
      obtain ⟨dx8, hp0⟩ := hr1.same s010
      refine ⟨_, rfl, rs, _, _, _, rfl, rfl, SqL.of (s010 _ _ hrs), atI_nat (j := 1) rfl, r1, dx8, _, rfl, hp0, rfl, _, rfl, _, rfl, ?_⟩
      refine ⟨r1, x, ya, m, Z.map srt, S, rfl, hr1.same s010, hW6.same (s69.trans s10), hW2, .inr (SqT.of hya), fun H11 s11 => ?_⟩
      refine ⟨_, rfl, iteN (by rw [hacc]; rfl) ?_⟩
      exact ⟨_, _, _, rfl, (s89.trans s10).trans s11⟩
    rintro σ H9 ⟨v5, v6, v7, rfl, s89⟩
    exact k H9 (s6.trans (s68.trans s89))
end Fw
end

section
set_option Elab.async false
set_option maxRecDepth 100000
set_option maxHeartbeats 4000000
set_option linter.all false
/-! D20: the law. -/
namespace Fw
open PySem PySem.Spec PyProof.Rows L2
theorem Same2 {H : Hp} {x dx : Addr} {o u : HO} (nx : H x = Option.none) (ndx : H dx = Option.none) : Same H (upd (upd H dx o) x u) := fun b v e => by
  rw [upd_ne (ne_of_none e nx), upd_ne (ne_of_none e ndx)]; exact e
theorem SqL.sm {K : PySem.W.Frag} {l : Addr} {H H' : Hp} {us : List V} (h : SqL K H l us) (s : Same H H') : SqL K H' l us := by
  rcases h with h | h
  · left
    rcases h with h | ⟨o, h⟩
    · exact .inl (s _ _ h)
    · exact .inr ⟨o, s _ _ h⟩
  · exact .inr h
theorem nI_inj : ∀ {a b : List Nat}, nI a = nI b → a = b
  | [], [], _ => rfl
  | [], _ :: _, h => by cases h
  | _ :: _, [], h => by cases h
  | x :: a, y :: b, h => by
    have h1 : ((x : Nat) : Int) :: nI a = ((y : Nat) : Int) :: nI b := h
    injection h1 with h1 h2
    rw [nI_inj h2, Int.ofNat.inj h1]
theorem mem_nI {S : List Nat} {L : List (List Nat)} : nI S ∈ L.map nI ↔ S ∈ L := by
  rw [List.mem_map]
  constructor
  · rintro ⟨X, h, e⟩
    rw [← nI_inj e]; exact h
  · exact fun h => ⟨S, h, rfl⟩
theorem nI_nil {X : List Nat} : (!decide (nI X = [])) = decide (X ≠ []) := by
  cases X <;> rfl
theorem cut_int {ns : List Int} {lo hi : Option Int} {i : Nat} {y : V} (h : (cutV (ns.map V.int) lo hi)[i]? = some y) : ∃ c : Int, y = .int c := by
  have h1 := List.mem_of_mem_drop (List.mem_of_mem_take (List.mem_of_getElem? h))
  obtain ⟨c, _, e⟩ := List.mem_map.mp h1
  exact ⟨c, e.symm⟩
/-- the sieve of a rule, whatever comes of the list of sieves -/
def SvAt (A : Ad) (D : Addr) (H : Hp) (m : Nat) (R : List (Nat × Nat)) (ss : List V) (j : Nat) : Prop := ∃ p rows t, ss[j]? = some (V.ref p) ∧ (∀ H2, But D H H2 → KT H H2 → SieAt A H2 p (R.map srt).length rows t) ∧ Valid (R.map srt).length rows ∧ rows.length ≤ 100000 ∧
  t < rows.length + 2 ∧ setsAt rows t = langW (decide (j = 1)) m (R.map srt)
theorem ok_law {P : Program} {w : World} {K : PySem.W.Frag} {mg : Str → Option Value} {base : Heap} {A : Ad} (T : Txt K mg A) : FnOk P w K mg base CX0 8 A.f_law A.d_law ["_law_script"] (sp_law K) := by
  have G_law_web : FnOk P w K mg base CX0 3 A.f_law_web A.d_law_web ["_law_cell"] (sp_law_web) := ok_law_web T
  have G_law_at : FnOk P w K mg base CX0 1 A.f_law_at A.d_law_at ["_law_script", "_law_k"] (sp_law_at K) := ok_law_at T
  have G_Web_init : FnOk P w K mg base CX0 2 A.f_Web_init A.d_Web_init ["self", "many", "ties"] (sp_Web_init K A) := ok_Web_init T
  have G_grown : FnOk P w K mg base CX0 6 A.f_grown A.d_grown ["web", "rule"] (sp_grown A) := ok_grown T
  have G_sets_of : FnOk P w K mg base CX0 3 A.f_sets_of A.d_sets_of ["sieve"] (sp_sets_of A) := ok_sets_of T
  have G_law_round : FnOk P w K mg base CX0 1 A.f_law_round A.d_law_round ["_law_rows_here", "_law_some"] (sp_law_round) := ok_law_round T
  have G_law_elsewhere : FnOk P w K mg base CX0 7 A.f_law_elsewhere A.d_law_elsewhere ["_law_rules", "_law_many", "_law_rows_here"] (sp_law_elsewhere A) := ok_law_elsewhere T
  have G_Sieve_many : FnOk P w K mg base CX0 1 A.f_Sieve_many A.d_Sieve_many ["self"] (sp_Sieve_many A) := ok_Sieve_many T
  have G_law_set : FnOk P w K mg base CX0 2 A.f_law_set A.d_law_set ["_law_many", "_law_rows_here", "_law_told", "_law_cell", "_law_k"] (sp_law_set) := ok_law_set T
  have G_law_right : FnOk P w K mg base CX0 5 A.f_law_right A.d_law_right ["_law_web_here", "_law_rule", "_law_sieve", "_law_some", "_law_due", "_law_asked"] (sp_law_right A) := ok_law_right T
  refine T.F_law.ok sc_law (fun vs H Q E h => ?_) (fun cdv A' outer s H vs Q E hr h => ?_)
  · obtain ⟨a, ns, rfl, _⟩ := h
    rfl
  · obtain ⟨a, ns, rfl, hS, hlen, k⟩ := h
    have hu := hu_of hr
    refine ⟨_, (pss_cons (ps_asg (pe_call G_law_web (hr.mono (by decide)) (by rfl) T.g_law_web T.F_law_web.kp T.b_law_web .nil pass0 (pa_cons (pe_call G_law_at (hr.mono (by decide)) (by rfl) T.g_law_at T.F_law_at.kp T.b_law_at .nil pass0 (pa_cons (pv 0) (pa_cons pe_int pa_nil))) pa_nil)) (pgt (K := K) (n := 2) rfl (pgs_cons (pg_name (i := 1) sc_law.nd rfl (by first | exact Or.inl rfl | exact Or.inr rfl)) (pgs_cons (pg_name (i := 2) sc_law.nd rfl (by first | exact Or.inl rfl | exact Or.inr rfl)) pgs_nil))))
(pss_cons (ps_set (i := 3) sc_law.nd rfl (by first | exact Or.inl rfl | exact Or.inr rfl) (pe_make T.mk_Web G_Web_init (hr.mono (by decide)) (by rfl) T.g_Web T.b_Web_init .nil pass0 (pa_cons (pv 1) (pa_cons (pv 2) pa_nil))))
(pss_cons (ps_set (i := 4) sc_law.nd rfl (by first | exact Or.inl rfl | exact Or.inr rfl) (pe_lst (pa_cons (pe_makeN ⟨T.mk_Rings, T.in_Rings, T.kc_Rings⟩ (by rfl) T.g_Rings) (pa_cons (pe_makeN ⟨T.mk_Rounds, T.in_Rounds, T.kc_Rounds⟩ (by rfl) T.g_Rounds) pa_nil))))
(pss_cons (ps_setLc (i := 5) (own := [("_law_rule", 12)]) rfl sc_law.nd rfl rfl (sw_true rfl rfl rfl (by decide +kernel)) (pil (K := K) (pv 4)) (blkOk_by (N := ["_law_script", "_law_many", "_law_rows_here", "_law_web_here", "_law_rules", "_law_sieves", "_law_told", "_law_some", "_law_k", "_law_cell", "_law_points", "_law_due", "_law_rule", "_law_sieve"]) (sc := defScope s_law) (by decide +kernel)) (fun _ _ _ _ _ => (pg_name (i := 12) sc_law.nd rfl (by first | exact Or.inl rfl | exact Or.inr rfl))) (fun _ _ _ _ _ => pts_nil) (fun _ _ _ _ _ => (pe_call G_grown (hr.mono (by decide)) (by rfl) T.g_grown T.F_grown.kp T.b_grown .nil pass0 (pa_cons (pv 3) (pa_cons (pv 12) pa_nil)))))
(pss_cons (ps_set (i := 6) sc_law.nd rfl (by first | exact Or.inl rfl | exact Or.inr rfl) (pe_call G_sets_of (hr.mono (by decide)) (by rfl) T.g_sets_of T.F_sets_of.kp T.b_sets_of .nil pass0 (pa_cons (pe_ix (ixl (K := K)) (pv 5) pe_int (fun _ _ => rfl)) pa_nil)))
(pss_cons (ps_if (pw_or (pt_not (pt_val (pe_callB call_isi (by rfl) T.z_isinstance (by decide +kernel) (pa_cons (pe_ix (ixl (K := K)) (pv 4) pe_int (fun _ _ => rfl)) (pa_cons (pe_glob (v := .ref A.c_Rule) (by rfl) T.g_Rule rfl) pa_nil))))) (pw_or (pt_not (pt_val (pe_callB call_isi (by rfl) T.z_isinstance (by decide +kernel) (pa_cons (pe_ix (ixl (K := K)) (pv 4) pe_int (fun _ _ => rfl)) (pa_cons (pe_glob (v := .ref A.c_Rule) (by rfl) T.g_Rule rfl) pa_nil))))) (pw_or1 (pt_val (pe_callB call_isi (by rfl) T.z_isinstance (by decide +kernel) (pa_cons (pv 6) (pa_cons (pe_bltn (v := .ty "tuple") (by rfl) T.z_tuple (by decide +kernel : PySem.bootBuiltins "tuple" = some (.type "tuple")) rfl) pa_nil))))))).pt
(pss_one (ps_ret pe_bl))
pss_nil)
(pss_cons (ps_for PassesOwn.never rfl (pil (K := K) (pv 6)) (pg_name (i := 7) sc_law.nd rfl (by first | exact Or.inl rfl | exact Or.inr rfl))
(pss_one (ps_if (pt_cmpR (eqd (K := K) hr.units) (pe_call G_law_round (hr.mono (by decide)) (by rfl) T.g_law_round T.F_law_round.kp T.b_law_round .nil pass0 (pa_cons (pv 2) (pa_cons (pv 7) pa_nil))) (pe_lst pa_nil) (nomark _))
(pss_one (ps_ret pe_bl))
pss_nil)))
(pss_cons (ps_if (pt_cmpR (ned (K := K) hr.units) (pe_call G_sets_of (hr.mono (by decide)) (by rfl) T.g_sets_of T.F_sets_of.kp T.b_sets_of .nil pass0 (pa_cons (pe_ix (ixl (K := K)) (pv 5) pe_int (fun _ _ => rfl)) pa_nil)) (pe_lc (own := [("_law_some", 7)]) rfl sc_law.nd (pil (K := K) (pv 6)) (blkOk_by (N := ["_law_script", "_law_many", "_law_rows_here", "_law_web_here", "_law_rules", "_law_sieves", "_law_told", "_law_some", "_law_k", "_law_cell", "_law_points", "_law_due", "_law_rule", "_law_sieve"]) (sc := defScope s_law) (by decide +kernel)) (fun _ _ _ _ _ => (pg_name (i := 7) sc_law.nd rfl (by first | exact Or.inl rfl | exact Or.inr rfl))) (fun _ _ _ _ _ => (pts_one (pt_cmpR op_eq (pe_callB (lens (K := K)) (by rfl) T.z_len (by decide +kernel) (pa_cons (pv 7) pa_nil)) (pv 1) (nomark _)))) (fun _ _ _ _ _ => (pv 7))) (nomark _))
(pss_one (ps_ret pe_bl))
pss_nil)
(pss_cons (ps_if (pw_or (pt_not (pt_val (pe_call G_law_elsewhere (hr.mono (by decide)) (by rfl) T.g_law_elsewhere T.F_law_elsewhere.kp T.b_law_elsewhere .nil pass0 (pa_cons (pv 4) (pa_cons (pv 1) (pa_cons (pv 2) pa_nil)))))) (pw_or1 (pt_cmpR (ned (K := K) hr.units) (pe_lc (own := [("_law_sieve", 13)]) rfl sc_law.nd (pil (K := K) (pv 5)) (blkOk_by (N := ["_law_script", "_law_many", "_law_rows_here", "_law_web_here", "_law_rules", "_law_sieves", "_law_told", "_law_some", "_law_k", "_law_cell", "_law_points", "_law_due", "_law_rule", "_law_sieve"]) (sc := defScope s_law) (by decide +kernel)) (fun _ _ _ _ _ => (pg_name (i := 13) sc_law.nd rfl (by first | exact Or.inl rfl | exact Or.inr rfl))) (fun _ _ _ _ _ => pts_nil) (fun _ _ _ _ _ => (pe_meth0 (pv 13) T.cl_Sieve T.m_Sieve_many G_Sieve_many (hr.mono (by decide)) T.b_Sieve_many .nil pass0))) (pe_lst (pa_cons (pe_callB (lens (K := K)) (by rfl) T.z_len (by decide +kernel) (pa_cons (pv 2) pa_nil)) (pa_cons (pe_callB (lens (K := K)) (by rfl) T.z_len (by decide +kernel) (pa_cons (pv 2) pa_nil)) pa_nil))) (nomark _)))).pt
(pss_one (ps_ret pe_bl))
pss_nil)
(pss_cons (ps_for PassesOwn.never rfl (pien (K := K) (by rfl) T.z_enumerate (pa_cons (pe_slice (sll (K := K)) (pv 0) (po_some pe_int) (po_some pe_int)) pa_nil)) (pgt (K := K) (n := 2) rfl (pgs_cons (pg_name (i := 8) sc_law.nd rfl (by first | exact Or.inl rfl | exact Or.inr rfl)) (pgs_cons (pg_name (i := 9) sc_law.nd rfl (by first | exact Or.inl rfl | exact Or.inr rfl)) pgs_nil)))
(pss_cons (ps_set (i := 7) sc_law.nd rfl (by first | exact Or.inl rfl | exact Or.inr rfl) (pe_call G_law_set (hr.mono (by decide)) (by rfl) T.g_law_set T.F_law_set.kp T.b_law_set .nil pass0 (pa_cons (pv 1) (pa_cons (pv 2) (pa_cons (pv 6) (pa_cons (pv 9) (pa_cons (pv 8) pa_nil)))))))
(pss_cons (ps_set (i := 10) sc_law.nd rfl (by first | exact Or.inl rfl | exact Or.inr rfl) (pe_call G_law_round (hr.mono (by decide)) (by rfl) T.g_law_round T.F_law_round.kp T.b_law_round .nil pass0 (pa_cons (pv 2) (pa_cons (pv 7) pa_nil))))
(pss_cons (ps_set (i := 11) sc_law.nd rfl (by first | exact Or.inl rfl | exact Or.inr rfl) (pe_cmpR (ned (K := K) hr.units) (pv 10) (pe_lst pa_nil) (nomark _)))
(pss_cons (ps_if (pw_or (pt_not (pt_val (pe_call G_law_right (hr.mono (by decide)) (by rfl) T.g_law_right T.F_law_right.kp T.b_law_right .nil pass0 (pa_cons (pv 3) (pa_cons (pe_ix (ixl (K := K)) (pv 4) pe_int (fun _ _ => rfl)) (pa_cons (pe_ix (ixl (K := K)) (pv 5) pe_int (fun _ _ => rfl)) (pa_cons (pv 7) (pa_cons (pv 11) (pa_cons (pe_cmpR op_lt (pe_op op_modN (pv 8) pe_int) pe_int (nomark _)) pa_nil))))))))) (pw_or1 (pt_cmpR op_ne (pe_cmpR (ind (K := K) (hu65 hr)) (pv 7) (pv 6) (by rfl)) (pv 11) (nomark _)))).pt
(pss_one (ps_ret pe_bl))
pss_nil)
(pss_one (ps_if (pt_not (pt_val (pe_call G_law_right (hr.mono (by decide)) (by rfl) T.g_law_right T.F_law_right.kp T.b_law_right .nil pass0 (pa_cons (pv 3) (pa_cons (pe_ix (ixl (K := K)) (pv 4) pe_int (fun _ _ => rfl)) (pa_cons (pe_ix (ixl (K := K)) (pv 5) pe_int (fun _ _ => rfl)) (pa_cons (pv 7) (pa_cons (pe_cmpR op_eq (pe_callB (lens (K := K)) (by rfl) T.z_len (by decide +kernel) (pa_cons (pv 10) pa_nil)) (pv 1) (nomark _)) (pa_cons (pe_cmpR op_eq (pe_op op_modN (pv 8) pe_int) pe_int (nomark _)) pa_nil)))))))))
(pss_one (ps_ret pe_bl))
pss_nil)))))))
(pss_one (ps_ret (pe_cmpR (eqd (K := K) hr.units) (pe_call G_sets_of (hr.mono (by decide)) (by rfl) T.g_sets_of T.F_sets_of.kp T.b_sets_of .nil pass0 (pa_cons (pe_call G_grown (hr.mono (by decide)) (by rfl) T.g_grown T.F_grown.kp T.b_grown .nil pass0 (pa_cons (pv 3) (pa_cons (pe_ix (ixl (K := K)) (pv 4) pe_int (fun _ _ => rfl)) pa_nil))) pa_nil)) (pv 6) (nomark _)))))))))))))), ?_⟩
    refine ⟨_, rfl, a, ns, 0, rfl, hS, _, rfl, fun qw l m R H1 s1 hq hl G => ?_⟩
    refine ⟨qw, _, rfl, SqT.of hq, rfl, _, _, rfl, _, _, rfl, rfl, ?_⟩
    have GW := G.web
    have h12 := GW.len
    have eW0 : (R.map srt).length = R.length := List.length_map ..
    refine ⟨_, rfl, _, rfl, ?_⟩
    intro x dx nx ndx nex
    obtain ⟨us, hus, hI⟩ := hl.same (Same2 (o := .own x) (u := .ins A.c_Web dx []) nx ndx)
    refine ⟨x, dx, l, m, us, R, rfl, upd_same, SqL.of hus, hI, G, fun H2 hW hb => ⟨rfl, ?_⟩⟩
    have s12 : Same H1 H2 := fun b o e => hb b o (Same2 nx ndx b o e) (ne_of_none e nx)
    have s2 := s1.trans s12
    have hl2 := hl.same s12
    intro r0 d0 n0 nd0 ne0 r1 d1 n1 nd1 ne1
    refine ⟨by show 2 ≤ sizeLine; decide, fun rs hrs => ?_⟩
    have sa := Same2 (o := .own r0) (u := .ins A.c_Rings d0 []) n0 nd0
    have hr0 : RuleAt A (upd (upd H2 d0 (.own r0)) r0 (.ins A.c_Rings d0 [])) r0 false := ⟨d0, upd_same⟩
    generalize (upd (upd H2 d0 (.own r0)) r0 (.ins A.c_Rings d0 [])) = H3 at sa hr0 n1 nd1 hrs
    have sb := Same2 (o := .own r1) (u := .ins A.c_Rounds d1 []) n1 nd1
    have hr1 : RuleAt A (upd (upd H3 d1 (.own r1)) r1 (.ins A.c_Rounds d1 [])) r1 true := ⟨d1, upd_same⟩
    generalize (upd (upd H3 d1 (.own r1)) r1 (.ins A.c_Rounds d1 [])) = H4 at sb hr1 hrs
    have sc := Same_new (o := .lst [.ref r0, .ref r1]) hrs
    have hrs5 : (upd H4 rs (.lst [.ref r0, .ref r1])) rs = some (.lst [.ref r0, .ref r1]) := upd_same
    generalize (upd H4 rs (.lst [.ref r0, .ref r1])) = H5 at sc hrs5
    have hr0 := (hr0.same sb).same sc
    have hr1 := hr1.same sc
    have s25 := (sa.trans sb).trans sc
    have s5 := s2.trans s25
    have hl5 := hl2.same s25
    have hW5 := hW.same s25
    clear sa sb sc s25 hl2 hW hl hb hrs n0 nd0 ne0 n1 nd1 ne1 hus hI nx ndx nex s12 s2 s1 hq
    refine ⟨_, rfl, rs, rfl, ⟨_, SqL.of hrs5⟩, fun D hD => ?_⟩
    refine lc_list (K := K) (a := rs) (xs := [.ref r0, .ref r1]) (fun i H6 => Same H5 H6 ∧ ∃ ss, H6 D = some (.lst ss) ∧ ss.length = i ∧ ∀ j, j < i → SvAt A D H6 m R ss j)
      ⟨Same_new hD, [], upd_same, rfl, fun j h => absurd h (Nat.not_lt_zero _)⟩ (fun i H6 _ q => SqL.of (q.1 _ _ hrs5)) ?_ ?_
    · rintro i y H6 hi ⟨s6, ss, hD6, hsl, hss⟩
      obtain ⟨r, rfl, hr', hi2⟩ : ∃ r, y = V.ref r ∧ RuleAt A H5 r (decide (i = 1)) ∧ i < 2 := by
        match i, hi with
        | 0, hi => exact ⟨r0, (Option.some.inj hi).symm, hr0, by decide⟩
        | 1, hi => exact ⟨r1, (Option.some.inj hi).symm, hr1, by decide⟩
      refine ⟨rfl, yesIf ?_⟩
      refine ⟨_, rfl, _, rfl, _, r, x, m, R.map srt, rfl, hr'.same s6, hW5.same s6, GW, fun p rows t H7 s7 hSv Vr hrl ht e fr => ?_⟩
      refine ⟨ss, s7 _ _ hD6, szl (by omega), (s6.trans s7).mut hD, ss ++ [.ref p], upd_same, by simp [hsl], fun j hj => ?_⟩
      have kt7 := KT.mut (o := .lst (ss ++ [.ref p])) (s7 _ _ hD6) trivial
      by_cases hji : j < i
      · obtain ⟨p', rows', t', a1, a2, a3, a4, a5, a6⟩ := hss j hji
        refine ⟨p', rows', t', by rw [List.getElem?_append_left (by omega)]; exact a1, fun H8 b8 k8 => a2 H8 (fun b o e n => b8 b o (by rw [upd_ne n]; exact s7 _ _ e) n) ((s7.kt.trans kt7).trans k8), a3, a4, a5, a6⟩
      · have hji : j = i := by omega
        subst hji
        refine ⟨p, rows, t, by rw [List.getElem?_append_right (by omega), hsl]; simp, fun H8 b8 k8 => fr H8 (fun b o e n => ?_) (kt7.trans k8), Vr, hrl, ht, e⟩
        have nb : b ≠ D := fun z => by rw [z, hD6] at e; cases e
        exact b8 b o (by rw [upd_ne nb]; exact n) nb
    rintro H6 ⟨s56, ss, hD6, hsl, hss⟩
    have hss := fun j hj => hss j hj
    obtain ⟨p0, rows0, t0, e0, f0, V0, L0, T0, g0⟩ := hss 0 (show (0 : Nat) < 2 from by decide)
    obtain ⟨p1, rows1, t1, e1, f1, V1, L1, T1, g1⟩ := hss 1 (show (1 : Nat) < 2 from by decide)
    have hs0 : SieAt A H6 p0 (R.map srt).length rows0 t0 := f0 H6 (fun b o e _ => e) (KT.refl _)
    have hs1 : SieAt A H6 p1 (R.map srt).length rows1 t1 := f1 H6 (fun b o e _ => e) (KT.refl _)
    have g0 : setsAt rows0 t0 = langW false m (R.map srt) := g0
    have g1 : setsAt rows1 t1 = langW true m (R.map srt) := g1
    have hsl : ss.length = 2 := hsl
    have hr0 := hr0.same s56
    have hr1 := hr1.same s56
    have hl6 := hl5.same s56
    have hW6 := hW5.same s56
    have hrs6 := s56 _ _ hrs5
    have s6 := s5.trans s56
    clear f0 f1 hss hl5 hW5 hrs5 s5 s56
    -- told
    refine ⟨_, rfl, D, ss, _, _, rfl, rfl, SqL.of hD6, atI_nat (j := 0) e0, p0, _, t0, rows0, rfl, hs0, V0, h12, L0, T0, fun tq H7 s7 htq => ?_⟩
    rw [g0] at htq
    have hLs : ∀ X ∈ langW false m (R.map srt), X.Pairwise (· < ·) ∧ ∀ x ∈ X, x < R.length := fun X hX => G.sub hX
    have hLl := G.llen false
    have hr0 := hr0.same s7
    have hr1 := hr1.same s7
    have hl7 := hl6.same s7
    have hW7 := hW6.same s7
    have hrs7 := s7 _ _ hrs6
    have hD7 := s7 _ _ hD6
    have hs0 := hs0.same s7
    have hs1 := hs1.same s7
    have s07 := s6.trans s7
    clear hl6 hW6 hrs6 hD6 s6 s7
    -- isinstance
    obtain ⟨dr0, hp0⟩ := id hr0
    obtain ⟨dr1, hp1⟩ := id hr1
    obtain ⟨ts, hts, hTI⟩ := id htq
    have htl : ts.length = (langW false m (R.map srt)).length := by rw [hTI.len, List.length_map]
    refine ⟨_, rfl, rs, _, _, _, rfl, rfl, SqL.of hrs7, atI_nat (j := 0) rfl, .ref r0, .ref A.c_Rule, .ref A.c_Rings, .ref A.c_Rule, true, rfl, .own _, .base (.ins hp0 T.cl_Rings T.ca_Rings T.x_get T.x_tak T.cm_Rings), T.is_Rings, _, rfl, iteN rfl ?_⟩
    refine ⟨_, rfl, rs, _, _, _, rfl, rfl, SqL.of hrs7, atI_nat (j := 1) rfl, .ref r1, .ref A.c_Rule, .ref A.c_Rounds, .ref A.c_Rule, true, rfl, .own _, .base (.ins hp1 T.cl_Rounds T.ca_Rounds T.x_get T.x_tak T.cm_Rounds), T.is_Rounds, _, rfl, iteN rfl ?_⟩
    refine ⟨_, rfl, .ref tq, .ty "tuple", .type "list", .type "tuple", false, rfl, .ty _, .base (.lst hts), kit_ty (by decide +kernel), _, rfl, iteN rfl ?_⟩
    -- each told set is a ring
    refine ⟨_, rfl, tq, rfl, ⟨_, SqL.of hts⟩, for_list (K := K) (a := tq) (xs := ts) (fun j σ H8 => ∃ v7 v8 v9 v10 v11 v12 v13, σ = [some (.ref a), some (.int m), some (.ref l), some (.ref x), some (.ref rs), some (.ref D), some (.ref tq), v7, v8, v9, v10, v11, v12, v13] ∧ Same H7 H8)
      ⟨_, _, _, _, _, _, _, rfl, Same.refl _⟩ (fun j σ H8 _ ⟨_, _, _, _, _, _, _, _, z⟩ => SqL.of (z _ _ hts)) ?_ ?_⟩
    · rintro j y σ H8 hj ⟨v7, v8, v9, v10, v11, v12, v13, rfl, s78⟩
      obtain ⟨ns', e3, hy⟩ := hTI.get hj
      rw [List.getElem?_map] at e3
      obtain ⟨S, eS, rfl⟩ := Option.map_eq_some_iff.mp e3
      have hSm := List.mem_of_getElem? eS
      obtain ⟨hso, hSb⟩ := hLs S hSm
      have hacc := (G.mem false hso hSb).mp hSm
      have hw := G.accF hso hSb
      rw [hacc] at hw
      have hw := of_decide_eq_true hw.symm
      refine ⟨_, rfl, _, rfl, l, y, m, R, S, rfl, hl7.same s78, G.pts, G.len, hy.kt s78.kt, hso, hSb, fun q' H9 s89 hq' => ?_⟩
      refine ⟨Nat.zero_le _, fun p' hp' => ?_⟩
      have s9 := Same_new (o := .lst []) hp'
      have hp9 : (upd H9 p' (.lst [])) p' = some (.lst []) := upd_same
      generalize (upd H9 p' (.lst [])) = H10 at s9 hp9
      refine ⟨_, _, dpIL (SqL.of (s9 _ _ hq')), dpIL (ns := []) (SqL.of hp9), shIL _, shIL [], _, rfl, ?_⟩
      rw [eqvIL]
      refine iteN (decide_eq_false fun z => hw (nI_inj z)) ?_
      exact ⟨_, _, _, _, _, _, _, rfl, (s78.trans s89).trans s9⟩
    rintro σ H8 ⟨v7, v8, v9, v10, v11, v12, v13, rfl, s78⟩
    have hr0 := hr0.same s78
    have hr1 := hr1.same s78
    have hl8 := hl7.same s78
    have hW8 := hW7.same s78
    have hrs8 := s78 _ _ hrs7
    have hD8 := s78 _ _ hD7
    have hs0 := hs0.same s78
    have hs1 := hs1.same s78
    have htq8 := htq.same s78
    have s08 := s07.trans s78
    clear hl7 hW7 hrs7 hD7 s07 s78 htq hts hTI hp0 hp1
    -- the rounds
    refine ⟨_, rfl, D, ss, _, _, rfl, rfl, SqL.of hD8, atI_nat (j := 1) e1, p1, _, t1, rows1, rfl, hs1, V1, h12, L1, T1, fun q1 H9 s9 hq1 => ?_⟩
    rw [g1] at hq1
    obtain ⟨ts, hts, hTI⟩ := htq8.same s9
    have htl : ts.length = (langW false m (R.map srt)).length := by rw [hTI.len, List.length_map]
    refine ⟨_, rfl, tq, rfl, ⟨_, SqL.of hts⟩, fun D2 hD2 => ?_⟩
    refine lc_list (K := K) (a := tq) (xs := ts) (fun j H10 => Same H9 H10 ∧ LL H10 D2 ((((langW false m (R.map srt)).take j).filter fun X => decide (X.length = m)).map nI)) ⟨Same_new hD2, [], upd_same, .nil⟩ (fun j H10 _ q => SqL.of (q.1 _ _ hts)) ?_ ?_
    · rintro j y H10 hj ⟨s10, vs, hv10, hV10⟩
      obtain ⟨ns', e3, hy⟩ := hTI.get hj
      rw [List.getElem?_map] at e3
      obtain ⟨S, eS, rfl⟩ := Option.map_eq_some_iff.mp e3
      obtain ⟨ya, rfl, hya⟩ := hy.kt s10.kt
      have etk := take_snoc eS
      have hvl : vs.length ≤ 4096 := by
        rw [hV10.len, List.length_map]
        refine Nat.le_trans (List.length_filter_le _ _) (Nat.le_trans ?_ hLl)
        rw [List.length_take]
        exact Nat.min_le_right _ _
      refine ⟨rfl, _, rfl, ya, _, rfl, .inr (SqT.of hya), _, rfl, rfl, _, rfl, ?_⟩
      rw [dInt, nI_len]
      refine iteB (fun hc => ?_) (fun hc => ?_)
      · have hc : S.length = m := Int.ofNat.inj (of_decide_eq_true hc)
        have kt := KT.mut (o := .lst (vs ++ [.ref ya])) hv10 trivial
        refine ⟨_, rfl, vs, hv10, szl (by omega), s10.mut hD2, vs ++ [.ref ya], upd_same, ?_⟩
        have ef : ((langW false m (R.map srt)).take (j + 1)).filter (fun X => decide (X.length = m)) = ((langW false m (R.map srt)).take j).filter (fun X => decide (X.length = m)) ++ [S] := by rw [etk, List.filter_append]; simp [hc]
        rw [ef, List.map_append]
        exact (hV10.kt kt).snoc ⟨ya, rfl, kt _ _ hya⟩
      · have hc : ¬ S.length = m := fun z => of_decide_eq_false hc (by rw [z])
        have ef : ((langW false m (R.map srt)).take (j + 1)).filter (fun X => decide (X.length = m)) = ((langW false m (R.map srt)).take j).filter (fun X => decide (X.length = m)) := by rw [etk, List.filter_append]; simp [hc]
        exact ⟨s10, vs, hv10, by rw [ef]; exact hV10⟩
    rintro H10 ⟨s10, hLL⟩
    rw [htl, List.take_length, ← G.langT] at hLL
    refine ⟨_, _, (hq1.same s10).dp, hLL.dp, shL _, shL _, _, rfl, ?_⟩
    rw [eqvL]
    refine iteN (by simp) ?_
    have s80 := s9.trans s10
    have hr0 := hr0.same s80
    have hr1 := hr1.same s80
    have hl10 := hl8.same s80
    have hW10 := hW8.same s80
    have hrs10 := s80 _ _ hrs8
    have hD10 := s80 _ _ hD8
    have hs0 := hs0.same s80
    have hs1 := hs1.same s80
    have htq10 := htq8.same s80
    have s010 := s08.trans s80
    clear hl8 hW8 hrs8 hD8 htq8 s08 s80 hLL hq1 hts hTI s9 s10
    -- elsewhere
    refine ⟨_, rfl, _, rfl, _, rfl, rs, r0, r1, l, m, R, rfl, hrs10, hr0, hr1, hl10, G, fun H11 s11 => ⟨_, rfl, iteN rfl ?_⟩⟩
    have hs0 := hs0.same s11
    have hs1 := hs1.same s11
    have hl11 := hl10.same s11
    have hD11 := s11 _ _ hD10
    refine ⟨_, rfl, D, rfl, ⟨_, SqL.of hD11⟩, fun D3 hD3 => ?_⟩
    refine lc_list (K := K) (a := D) (xs := ss) (fun j H12 => Same H11 H12 ∧ H12 D3 = some (.lst ((List.replicate j ((R.map srt).length : Int)).map V.int))) ⟨Same_new hD3, upd_same⟩ (fun j H12 _ q => SqL.of (q.1 _ _ hD11)) ?_ ?_
    · rintro j y H12 hj ⟨s12, hv12⟩
      have hj2 : j < 2 := by have := (List.getElem?_eq_some_iff.mp hj).1; omega
      obtain ⟨p, rows, t, rfl, hSv⟩ : ∃ p rows t, y = V.ref p ∧ SieAt A H11 p (R.map srt).length rows t := by
        match j, hj, hj2 with
        | 0, hj, _ => exact ⟨p0, rows0, t0, Option.some.inj (hj.symm.trans e0), hs0⟩
        | 1, hj, _ => exact ⟨p1, rows1, t1, Option.some.inj (hj.symm.trans e1), hs1⟩
      have hSv := hSv.same s12
      obtain ⟨dp, lp, hp, hlp⟩ := id hSv
      refine ⟨rfl, yesIf ?_⟩
      refine ⟨_, rfl, p, dp, _, rfl, hp, (nosf _ _ _).2.2, p, _, t, rows, rfl, hSv, ?_⟩
      refine ⟨_, hv12, szl (by simp; omega), s12.mut hD3, ?_⟩
      rw [upd_same, List.replicate_succ', List.map_append]
      rfl
    rintro H12 ⟨s12, hv12⟩
    rw [hsl] at hv12
    obtain ⟨us, hus, hI⟩ := hl11.same s12
    have hul : us.length = R.length := by rw [hI.len, List.length_map]
    refine ⟨_, rfl, l, _, rfl, .inl (SqL.of hus), _, rfl, l, _, rfl, .inl (SqL.of hus), by show 2 ≤ sizeLine; decide, fun p2 hp2 => ?_⟩
    have s13 := Same_new (o := .lst [.int (us.length : Nat), .int (us.length : Nat)]) hp2
    have hp3 : (upd H12 p2 (.lst [.int (us.length : Nat), .int (us.length : Nat)])) p2 = some (.lst (([(us.length : Int), (us.length : Int)] : List Int).map V.int)) := upd_same
    generalize (upd H12 p2 (.lst [.int (us.length : Nat), .int (us.length : Nat)])) = H13 at s13 hp3
    refine ⟨_, _, dpIL (SqL.of (s13 _ _ hv12)), dpIL (SqL.of hp3), shIL _, shIL _, _, rfl, ?_⟩
    rw [eqvIL]
    refine iteN (by rw [hul, eW0]; simp) ?_
    have s113 := s12.trans s13
    have s1013 := s11.trans s113
    have hr0 := hr0.same s1013
    have hr1 := hr1.same s1013
    have hl13 := hl11.same s113
    have hW13 := hW10.same s1013
    have hrs13 := s1013 _ _ hrs10
    have hD13 := s113 _ _ hD11
    have hs0 := hs0.same s113
    have hs1 := hs1.same s113
    have htq13 := htq10.same s1013
    have hS13 := SqL.sm hS (s010.trans s1013)
    clear hl10 hl11 hW10 hrs10 hD10 hD11 htq10 s010 s113 s1013 s11 s12 s13 hus hI hp3 hv12
    -- each set of the script
    refine ⟨_, rfl, _, rfl, _, rfl, a, _, rfl, hS13, fun sp hsp => ?_⟩
    have s14 := Same_new (o := .lst (cutV (ns.map V.int) (some 1) (some 63))) hsp
    have hsp14 : (upd H13 sp (.lst (cutV (ns.map V.int) (some 1) (some 63)))) sp = some (.lst (cutV (ns.map V.int) (some 1) (some 63))) := upd_same
    generalize (upd H13 sp (.lst (cutV (ns.map V.int) (some 1) (some 63)))) = H14 at s14 hsp14
    have hr0 := hr0.same s14
    have hr1 := hr1.same s14
    have hl14 := hl13.same s14
    have hW14 := hW13.same s14
    have hrs14 := s14 _ _ hrs13
    have hD14 := s14 _ _ hD13
    have hs0 := hs0.same s14
    have hs1 := hs1.same s14
    have htq14 := htq13.same s14
    clear hl13 hW13 hrs13 hD13 htq13 hS13 s14
    refine ⟨sp, _, rfl, SqL.of hsp14, ?_⟩
    refine for_it (walk_enum (K := K) (a := sp) (xs := cutV (ns.map V.int) (some 1) (some 63))) (fun j σ H15 => ∃ v7 v8 v9 v10 v11 v12 v13, σ = [some (.ref a), some (.int m), some (.ref l), some (.ref x), some (.ref rs), some (.ref D), some (.ref tq), v7, v8, v9, v10, v11, v12, v13] ∧ Same H14 H15)
      ⟨_, _, _, _, _, _, _, rfl, Same.refl _⟩ (fun j σ H15 _ ⟨_, _, _, _, _, _, _, _, z⟩ => SqL.of (z _ _ hsp14)) ?_ ?_
    · rintro i y σ H15 H16 hi ⟨v7, v8, v9, v10, v11, v12, v13, rfl, s15⟩ ⟨q, y1, y2, rfl, hq, rfl, ey1, ey2⟩
      cases ey1
      obtain ⟨c, rfl⟩ := cut_int ey2
      refine ⟨q, _, rfl, SqT.of upd_same, rfl, _, _, rfl, _, _, rfl, rfl, ?_⟩
      have s1516 := Same_new (o := .tup [.int i, .int c]) hq
      generalize (upd H15 q (.tup [.int i, .int c])) = H16 at s1516
      have s16 := s15.trans s1516
      refine ⟨_, rfl, _, rfl, _, rfl, _, rfl, _, rfl, l, tq, c, m, i, R, _, rfl, hl14.same s16, G, htq14.same s16, hLl, hLs, fun v S H17 s1617 hv hso hSb => ?_⟩
      have s17 := s16.trans s1617
      refine ⟨_, rfl, _, rfl, l, v, m, R, S, rfl, hl14.same s17, G.pts, G.len, hv, hso, hSb, fun pq H18 s1718 hpq => ?_⟩
      have s18 := s17.trans s1718
      have hv18 := hv.kt s1718.kt
      refine ⟨_, rfl, Nat.zero_le _, fun p' hp' => ?_⟩
      have s1819 := Same_new (o := .lst []) hp'
      have hp19 : (upd H18 p' (.lst [])) p' = some (.lst []) := upd_same
      generalize (upd H18 p' (.lst [])) = H19 at s1819 hp19
      have s19 := s18.trans s1819
      have hv19 := hv18.kt s1819.kt
      have hpq19 := s1819 _ _ hpq
      refine ⟨_, _, dpIL (SqL.of hpq19), dpIL (ns := []) (SqL.of hp19), shIL _, shIL [], ?_⟩
      rw [eqvIL, nI_nil]
      have aF := G.accF hso hSb
      have aT := G.accT hso hSb
      have mF := G.mem false hso hSb
      have mT := G.mem true hso hSb
      have d0 : decide (S ∈ setsAt rows0 t0) = decide (walk (eW R) S ≠ []) := by
        rw [g0, ← aF, Bool.eq_iff_iff, decide_eq_true_eq]; exact mF
      have d1 : decide (S ∈ setsAt rows1 t1) = decide ((walk (eW R) S).length = m) := by
        rw [g1, ← aT, Bool.eq_iff_iff, decide_eq_true_eq]; exact mT
      refine ⟨_, rfl, _, rfl, rs, _, _, _, rfl, rfl, SqL.of (s19 _ _ hrs14), atI_nat (j := 0) rfl, _, rfl, D, ss, _, _, rfl, rfl, SqL.of (s19 _ _ hD14), atI_nat (j := 0) e0, _, rfl, _, rfl, _, rfl, _, _, rfl, rfl, (by show (5 : Int) ≠ 0; decide), _, _, rfl, rfl, ?_⟩
      refine ⟨false, _, _, x, r0, p0, v, m, _, t0, R.map srt, rows0, S, rfl, hr0.same s19, hW14.same s19, GW, hs0.same s19, V0, T0, hv19, hso, aF, d0, fun H20 s1920 => ⟨_, rfl, iteN rfl ?_⟩⟩
      have s20 := s19.trans s1920
      have hv20 := hv19.kt s1920.kt
      refine ⟨_, rfl, _, rfl, dT (nI S), ((langW false m (R.map srt)).map nI).map dT, hv20.dp, (htq14.same s20).dp, shT _, shL _, _, rfl, rfl, _, rfl, ?_⟩
      rw [any_eqv]
      have d2 : decide (nI S ∈ (langW false m (R.map srt)).map nI) = decide (walk (eW R) S ≠ []) := by
        rw [← d0, g0]
        exact decide_eq_decide.mpr mem_nI
      rw [d2]
      refine iteN (by simp) ?_
      have hpq20 := s1920 _ _ hpq19
      refine ⟨_, rfl, _, rfl, rs, _, _, _, rfl, rfl, SqL.of (s20 _ _ hrs14), atI_nat (j := 1) rfl, _, rfl, D, ss, _, _, rfl, rfl, SqL.of (s20 _ _ hD14), atI_nat (j := 1) e1, _, rfl, _, rfl, pq, _, rfl, .inl (SqL.of hpq20), _, rfl, rfl, ?_⟩
      rw [dInt, nI_len]
      have d3 : decide (((walk (eW R) S).length : Int) = (m : Int)) = decide ((walk (eW R) S).length = m) := decide_eq_decide.mpr ⟨fun z => Int.ofNat.inj z, fun z => by rw [z]⟩
      rw [d3]
      refine ⟨_, rfl, _, _, rfl, rfl, (by show (5 : Int) ≠ 0; decide), rfl, ?_⟩
      refine ⟨true, _, _, x, r1, p1, v, m, _, t1, R.map srt, rows1, S, rfl, hr1.same s20, hW14.same s20, GW, hs1.same s20, V1, T1, hv20, hso, aT, d1, fun H21 s2021 => ⟨_, rfl, iteN rfl ?_⟩⟩
      exact ⟨_, _, _, _, _, _, _, rfl, s20.trans s2021⟩
    rintro σ H15 ⟨v7, v8, v9, v10, v11, v12, v13, rfl, s15⟩
    refine ⟨_, rfl, _, rfl, rs, _, _, _, rfl, rfl, SqL.of (s15 _ _ hrs14), atI_nat (j := 0) rfl, false, r0, x, m, R.map srt, rfl, hr0.same s15, hW14.same s15, GW, fun p rows t H16 s16 hSv Vr hrl ht e _ => ?_⟩
    refine ⟨p, _, t, rows, rfl, hSv, Vr, h12, hrl, ht, fun q H17 s17 hq => ?_⟩
    rw [e] at hq
    refine ⟨_, rfl, _, _, hq.dp, (htq14.same (s15.trans (s16.trans s17))).dp, shL _, shL _, ?_⟩
    rw [eqvL]
    have := k H17
    simpa using this
end Fw
end
set_option Elab.async false
set_option linter.all false
namespace Fw
abbrev lawLevel : Nat := 8
end Fw
/-! The end: what the top has written, and the law. Printed by genb.py. -/
set_option maxRecDepth 100000
set_option maxHeartbeats 4000000
namespace Fw
open PySem L2
theorem kit_isIn {K : PySem.W.Frag} {t : Value} {C : Addr} (h : PySem.W.isIn K t C = true) : PySem.W.kitOne K t (.ref C) = some true := by
  unfold PySem.W.kitOne
  by_cases e : (t == .ref C) = true
  · rw [if_pos e]
  · rw [if_neg e]
    unfold PySem.W.isIn at h
    have e' : (t == .ref C) = false := by
      cases q : (t == Value.ref C) with
      | true => exact absurd q e
      | false => rfl
    rw [e', Bool.false_or, Bool.and_eq_true, Bool.and_eq_true] at h
    obtain ⟨⟨h1, h2⟩, h3⟩ := h
    unfold PySem.W.kitCls
    show (if ((PySem.W.clsIn K C).isSome && PySem.W.typeIn K (.ref C) == some (.type "type")) = true then _ else _) = _
    rw [if_pos h1]
    exact eq_of_beq h3
abbrev fdOf {K : PySem.W.Frag} {x qual : Str} {st : Stmt} {f : Addr} {fd : FuncData} (_ : Fun K x qual st f fd) : FuncData := fd
theorem all_mk {l : PySem.W.OpenLaw} {w : World} {K : PySem.W.Frag} {h : Heap} {mg : Str → Option Value} {fa c_Sieve c_Rule c_Rings c_Rounds c_Web f0 f1 f2 f3 f4 f5 f6 f7 f8 f9 f10 f11 f12 f13 f14 f15 f16 f17 f18 f19 f20 f21 f22 f23 f24 f25 f26 f27 f28 f29 f30 f31 f32 f33 f34 f35 f36 f37 f38 f39 f40 f41 f42 f43 f44 f45 f46 f47 : Addr} (X : K.In h) (G : h.Ns mainGlobals mg) (hfa : mg "law" = some (.ref fa))
    {od0 an0 od1 an1 od2 an2 od3 an3 od4 an4 od5 an5 od6 an6 od7 an7 od8 an8 od9 an9 od10 an10 od11 an11 od12 an12 od13 an13 od14 an14 od15 an15 od16 an16 od17 an17 od18 an18 od19 an19 od20 an20 od21 an21 od22 an22 od23 an23 od24 an24 od25 an25 od26 an26 od27 an27 od28 an28 od29 an29 od30 an30 od31 an31 od32 an32 od33 an33 od34 an34 od35 an35 od36 an36 od37 an37 od38 an38 od39 an39 od40 an40 od41 an41 od42 an42 od43 an43 od44 an44 od45 an45 od46 an46 od47 an47 : Option Addr} {sl0 sl1 sl2 sl3 sl4 sl5 sl6 sl7 sl8 sl9 sl10 sl11 sl12 sl13 sl14 sl15 sl16 sl17 sl18 sl19 sl20 sl21 sl22 sl23 sl24 sl25 sl26 sl27 sl28 sl29 sl30 sl31 sl32 sl33 sl34 sl35 sl36 sl37 sl38 sl39 sl40 sl41 sl42 sl43 sl44 sl45 sl46 sl47 : Array (Option Value)} {oc0 kV0 dc0 pm0 cd0 ct0 oc1 kV1 dc1 pm1 cd1 ct1 oc2 kV2 dc2 pm2 cd2 ct2 oc3 kV3 dc3 pm3 cd3 ct3 oc4 kV4 dc4 pm4 cd4 ct4 oc5 kV5 dc5 pm5 cd5 ct5 oc6 kV6 dc6 pm6 cd6 ct6 oc7 kV7 dc7 pm7 cd7 ct7 oc8 kV8 dc8 pm8 cd8 ct8 oc9 kV9 dc9 pm9 cd9 ct9 oc10 kV10 dc10 pm10 cd10 ct10 oc11 kV11 dc11 pm11 cd11 ct11 oc12 kV12 dc12 pm12 cd12 ct12 oc13 kV13 dc13 pm13 cd13 ct13 oc14 kV14 dc14 pm14 cd14 ct14 oc15 kV15 dc15 pm15 cd15 ct15 oc16 kV16 dc16 pm16 cd16 ct16 oc17 kV17 dc17 pm17 cd17 ct17 oc18 kV18 dc18 pm18 cd18 ct18 oc19 kV19 dc19 pm19 cd19 ct19 oc20 kV20 dc20 pm20 cd20 ct20 oc21 kV21 dc21 pm21 cd21 ct21 oc22 kV22 dc22 pm22 cd22 ct22 oc23 kV23 dc23 pm23 cd23 ct23 oc24 kV24 dc24 pm24 cd24 ct24 oc25 kV25 dc25 pm25 cd25 ct25 oc26 kV26 dc26 pm26 cd26 ct26 oc27 kV27 dc27 pm27 cd27 ct27 oc28 kV28 dc28 pm28 cd28 ct28 oc29 kV29 dc29 pm29 cd29 ct29 oc30 kV30 dc30 pm30 cd30 ct30 oc31 kV31 dc31 pm31 cd31 ct31 oc32 kV32 dc32 pm32 cd32 ct32 oc33 kV33 dc33 pm33 cd33 ct33 oc34 kV34 dc34 pm34 cd34 ct34 oc35 kV35 dc35 pm35 cd35 ct35 oc36 kV36 dc36 pm36 cd36 ct36 oc37 kV37 dc37 pm37 cd37 ct37 oc38 kV38 dc38 pm38 cd38 ct38 oc39 kV39 dc39 pm39 cd39 ct39 oc40 kV40 dc40 pm40 cd40 ct40 oc41 kV41 dc41 pm41 cd41 ct41 oc42 kV42 dc42 pm42 cd42 ct42 oc43 kV43 dc43 pm43 cd43 ct43 oc44 kV44 dc44 pm44 cd44 ct44 oc45 kV45 dc45 pm45 cd45 ct45 oc46 kV46 dc46 pm46 cd46 ct46 oc47 kV47 dc47 pm47 cd47 ct47 : Value} {t_MOST_TIES_making t_AMID t_MOST_POINTS t_MOST_TIES_webs : Tok}
    (aC_Sieve : PySem.W.nsIn K mainGlobals "Sieve" = some (some (.ref c_Sieve)))
    (aC_Rule : PySem.W.nsIn K mainGlobals "Rule" = some (some (.ref c_Rule)))
    (aC_Rings : PySem.W.nsIn K mainGlobals "Rings" = some (some (.ref c_Rings)))
    (aC_Rounds : PySem.W.nsIn K mainGlobals "Rounds" = some (some (.ref c_Rounds)))
    (aC_Web : PySem.W.nsIn K mainGlobals "Web" = some (some (.ref c_Web)))
    (pg_Sieve : PySem.W.plainGet K c_Sieve Str.empty = true)
    (hd_Sieve : PySem.W.hasDictIn K c_Sieve = true)
    (po_Sieve : PySem.W.plainOver K c_Sieve = true)
    (sa_Sieve : PySem.W.findIn K (.ref c_Sieve) "__setattr__" = some (some (.builtin "object.__setattr__")))
    (mk_Sieve : PySem.W.makesIn K c_Sieve = true)
    (kc_Sieve : PySem.W.keepIn K (.ref c_Sieve) = true)
    (pg_Rings : PySem.W.plainGet K c_Rings Str.empty = true)
    (hd_Rings : PySem.W.hasDictIn K c_Rings = true)
    (po_Rings : PySem.W.plainOver K c_Rings = true)
    (sa_Rings : PySem.W.findIn K (.ref c_Rings) "__setattr__" = some (some (.builtin "object.__setattr__")))
    (mk_Rings : PySem.W.makesIn K c_Rings = true)
    (kc_Rings : PySem.W.keepIn K (.ref c_Rings) = true)
    (pg_Rounds : PySem.W.plainGet K c_Rounds Str.empty = true)
    (hd_Rounds : PySem.W.hasDictIn K c_Rounds = true)
    (po_Rounds : PySem.W.plainOver K c_Rounds = true)
    (sa_Rounds : PySem.W.findIn K (.ref c_Rounds) "__setattr__" = some (some (.builtin "object.__setattr__")))
    (mk_Rounds : PySem.W.makesIn K c_Rounds = true)
    (kc_Rounds : PySem.W.keepIn K (.ref c_Rounds) = true)
    (pg_Web : PySem.W.plainGet K c_Web Str.empty = true)
    (hd_Web : PySem.W.hasDictIn K c_Web = true)
    (po_Web : PySem.W.plainOver K c_Web = true)
    (sa_Web : PySem.W.findIn K (.ref c_Web) "__setattr__" = some (some (.builtin "object.__setattr__")))
    (mk_Web : PySem.W.makesIn K c_Web = true)
    (kc_Web : PySem.W.keepIn K (.ref c_Web) = true)
    (in_Sieve : PySem.W.findIn K (.ref c_Sieve) "__init__" = some (some (.ref f0)))
    (n_Sieve_wide : PySem.W.findIn K (.ref c_Sieve) "wide" = some none)
    (n_Sieve_rows : PySem.W.findIn K (.ref c_Sieve) "rows" = some none)
    (n_Sieve_start : PySem.W.findIn K (.ref c_Sieve) "start" = some none)
    (in_Web : PySem.W.findIn K (.ref c_Web) "__init__" = some (some (.ref f32)))
    (n_Web_point_count : PySem.W.findIn K (.ref c_Web) "point_count" = some none)
    (n_Web_rows : PySem.W.findIn K (.ref c_Web) "rows" = some none)
    (in_Rings : PySem.W.findIn K (.ref c_Rings) "__init__" = some (some (.builtin "object.__init__")))
    (is_Rings : PySem.W.isIn K (.ref c_Rings) c_Rule = true)
    (ca_Rings : PySem.W.findIn K (.ref c_Rings) "__class__" = some (some (.builtin "object.__class__")))
    (cm_Rings : PySem.W.mroIn K c_Rings (.type "object") = some true)
    (in_Rounds : PySem.W.findIn K (.ref c_Rounds) "__init__" = some (some (.builtin "object.__init__")))
    (is_Rounds : PySem.W.isIn K (.ref c_Rounds) c_Rule = true)
    (ca_Rounds : PySem.W.findIn K (.ref c_Rounds) "__class__" = some (some (.builtin "object.__class__")))
    (cm_Rounds : PySem.W.mroIn K c_Rounds (.type "object") = some true)
    (x_get : PySem.W.specialIn K (.builtin "object.__class__") "__get__" = some (some (.builtin "getset_descriptor.__get__")))
    (x_tak : PySem.W.takesIn K (.builtin "object.__class__") = some true)
    (m_Sieve_many : PySem.W.findIn K (.ref c_Sieve) "many" = some (some (.ref f1)))
    (m_Sieve_knots : PySem.W.findIn K (.ref c_Sieve) "knots" = some (some (.ref f2)))
    (m_Sieve_top : PySem.W.findIn K (.ref c_Sieve) "top" = some (some (.ref f3)))
    (m_Web_good_tie : PySem.W.findIn K (.ref c_Web) "good_tie" = some (some (.ref f33)))
    (m_Web_size : PySem.W.findIn K (.ref c_Web) "size" = some (some (.ref f34)))
    (m_Web_ties : PySem.W.findIn K (.ref c_Web) "ties" = some (some (.ref f35)))
    (m_Web_at : PySem.W.findIn K (.ref c_Web) "at" = some (some (.ref f36)))
    (m_Rings_look : PySem.W.findIn K (.ref c_Rings) "look" = some (some (.ref f16)))
    (m_Rings_left : PySem.W.findIn K (.ref c_Rings) "left" = some (some (.ref f17)))
    (m_Rings_shut_all : PySem.W.findIn K (.ref c_Rings) "shut_all" = some (some (.ref f18)))
    (m_Rings_opened : PySem.W.findIn K (.ref c_Rings) "opened" = some (some (.ref f19)))
    (m_Rings_stepped : PySem.W.findIn K (.ref c_Rings) "stepped" = some (some (.ref f20)))
    (m_Rings_fits : PySem.W.findIn K (.ref c_Rings) "fits" = some (some (.ref f21)))
    (m_Rings_begin : PySem.W.findIn K (.ref c_Rings) "begin" = some (some (.ref f27)))
    (m_Rings_took : PySem.W.findIn K (.ref c_Rings) "took" = some (some (.ref f28)))
    (m_Rings_shut : PySem.W.findIn K (.ref c_Rings) "shut" = some (some (.ref f29)))
    (m_Rings_good : PySem.W.findIn K (.ref c_Rings) "good" = some (some (.ref f30)))
    (m_Rounds_look : PySem.W.findIn K (.ref c_Rounds) "look" = some (some (.ref f16)))
    (m_Rounds_left : PySem.W.findIn K (.ref c_Rounds) "left" = some (some (.ref f17)))
    (m_Rounds_shut_all : PySem.W.findIn K (.ref c_Rounds) "shut_all" = some (some (.ref f18)))
    (m_Rounds_opened : PySem.W.findIn K (.ref c_Rounds) "opened" = some (some (.ref f19)))
    (m_Rounds_stepped : PySem.W.findIn K (.ref c_Rounds) "stepped" = some (some (.ref f20)))
    (m_Rounds_fits : PySem.W.findIn K (.ref c_Rounds) "fits" = some (some (.ref f21)))
    (m_Rounds_begin : PySem.W.findIn K (.ref c_Rounds) "begin" = some (some (.ref f27)))
    (m_Rounds_took : PySem.W.findIn K (.ref c_Rounds) "took" = some (some (.ref f28)))
    (m_Rounds_good : PySem.W.findIn K (.ref c_Rounds) "good" = some (some (.ref f30)))
    (m_Rounds_shut : PySem.W.findIn K (.ref c_Rounds) "shut" = some (some (.ref f31)))
    (i0 : PySem.W.isFn K (.ref f0) = true)
    (l0 : K.lookup f0 = some ⟨oc0, od0, .func (PySem.W.fnOf "__init__" "Sieve.__init__" (defArgs s_Sieve_init) (defBody s_Sieve_init) (defScope s_Sieve_init) .none kV0 dc0 pm0 an0 cd0 ct0), sl0⟩)
    (c0 : PySem.W.codeIn K cd0 "Sieve.__init__" = true)
    (k0 : PySem.W.keepIn K (.ref f0) = true)
    (i1 : PySem.W.isFn K (.ref f1) = true)
    (l1 : K.lookup f1 = some ⟨oc1, od1, .func (PySem.W.fnOf "many" "Sieve.many" (defArgs s_Sieve_many) (defBody s_Sieve_many) (defScope s_Sieve_many) .none kV1 dc1 pm1 an1 cd1 ct1), sl1⟩)
    (c1 : PySem.W.codeIn K cd1 "Sieve.many" = true)
    (k1 : PySem.W.keepIn K (.ref f1) = true)
    (i2 : PySem.W.isFn K (.ref f2) = true)
    (l2 : K.lookup f2 = some ⟨oc2, od2, .func (PySem.W.fnOf "knots" "Sieve.knots" (defArgs s_Sieve_knots) (defBody s_Sieve_knots) (defScope s_Sieve_knots) .none kV2 dc2 pm2 an2 cd2 ct2), sl2⟩)
    (c2 : PySem.W.codeIn K cd2 "Sieve.knots" = true)
    (k2 : PySem.W.keepIn K (.ref f2) = true)
    (i3 : PySem.W.isFn K (.ref f3) = true)
    (l3 : K.lookup f3 = some ⟨oc3, od3, .func (PySem.W.fnOf "top" "Sieve.top" (defArgs s_Sieve_top) (defBody s_Sieve_top) (defScope s_Sieve_top) .none kV3 dc3 pm3 an3 cd3 ct3), sl3⟩)
    (c3 : PySem.W.codeIn K cd3 "Sieve.top" = true)
    (k3 : PySem.W.keepIn K (.ref f3) = true)
    (a4 : PySem.W.nsIn K mainGlobals "knot_sets" = some (some (.ref f4)))
    (l4 : K.lookup f4 = some ⟨oc4, od4, .func (PySem.W.fnOf "knot_sets" "knot_sets" (defArgs s_knot_sets) (defBody s_knot_sets) (defScope s_knot_sets) .none kV4 dc4 pm4 an4 cd4 ct4), sl4⟩)
    (c4 : PySem.W.codeIn K cd4 "knot_sets" = true)
    (k4 : PySem.W.keepIn K (.ref f4) = true)
    (a5 : PySem.W.nsIn K mainGlobals "sets_of" = some (some (.ref f5)))
    (l5 : K.lookup f5 = some ⟨oc5, od5, .func (PySem.W.fnOf "sets_of" "sets_of" (defArgs s_sets_of) (defBody s_sets_of) (defScope s_sets_of) .none kV5 dc5 pm5 an5 cd5 ct5), sl5⟩)
    (c5 : PySem.W.codeIn K cd5 "sets_of" = true)
    (k5 : PySem.W.keepIn K (.ref f5) = true)
    (a6 : PySem.W.nsIn K mainGlobals "led_to" = some (some (.ref f6)))
    (l6 : K.lookup f6 = some ⟨oc6, od6, .func (PySem.W.fnOf "led_to" "led_to" (defArgs s_led_to) (defBody s_led_to) (defScope s_led_to) .none kV6 dc6 pm6 an6 cd6 ct6), sl6⟩)
    (c6 : PySem.W.codeIn K cd6 "led_to" = true)
    (k6 : PySem.W.keepIn K (.ref f6) = true)
    (a7 : PySem.W.nsIn K mainGlobals "has_set" = some (some (.ref f7)))
    (l7 : K.lookup f7 = some ⟨oc7, od7, .func (PySem.W.fnOf "has_set" "has_set" (defArgs s_has_set) (defBody s_has_set) (defScope s_has_set) .none kV7 dc7 pm7 an7 cd7 ct7), sl7⟩)
    (c7 : PySem.W.codeIn K cd7 "has_set" = true)
    (k7 : PySem.W.keepIn K (.ref f7) = true)
    (a8 : PySem.W.nsIn K mainGlobals "look_many" = some (some (.ref f8)))
    (l8 : K.lookup f8 = some ⟨oc8, od8, .func (PySem.W.fnOf "look_many" "look_many" (defArgs s_look_many) (defBody s_look_many) (defScope s_look_many) .none kV8 dc8 pm8 an8 cd8 ct8), sl8⟩)
    (c8 : PySem.W.codeIn K cd8 "look_many" = true)
    (k8 : PySem.W.keepIn K (.ref f8) = true)
    (a9 : PySem.W.nsIn K mainGlobals "merged_knots" = some (some (.ref f9)))
    (l9 : K.lookup f9 = some ⟨oc9, od9, .func (PySem.W.fnOf "merged_knots" "merged_knots" (defArgs s_merged_knots) (defBody s_merged_knots) (defScope s_merged_knots) .none kV9 dc9 pm9 an9 cd9 ct9), sl9⟩)
    (c9 : PySem.W.codeIn K cd9 "merged_knots" = true)
    (k9 : PySem.W.keepIn K (.ref f9) = true)
    (a10 : PySem.W.nsIn K mainGlobals "knots_reached" = some (some (.ref f10)))
    (l10 : K.lookup f10 = some ⟨oc10, od10, .func (PySem.W.fnOf "knots_reached" "knots_reached" (defArgs s_knots_reached) (defBody s_knots_reached) (defScope s_knots_reached) .none kV10 dc10 pm10 an10 cd10 ct10), sl10⟩)
    (c10 : PySem.W.codeIn K cd10 "knots_reached" = true)
    (k10 : PySem.W.keepIn K (.ref f10) = true)
    (a11 : PySem.W.nsIn K mainGlobals "numbered_sieve" = some (some (.ref f11)))
    (l11 : K.lookup f11 = some ⟨oc11, od11, .func (PySem.W.fnOf "numbered_sieve" "numbered_sieve" (defArgs s_numbered_sieve) (defBody s_numbered_sieve) (defScope s_numbered_sieve) .none kV11 dc11 pm11 an11 cd11 ct11), sl11⟩)
    (c11 : PySem.W.codeIn K cd11 "numbered_sieve" = true)
    (k11 : PySem.W.keepIn K (.ref f11) = true)
    (a12 : PySem.W.nsIn K mainGlobals "least_of" = some (some (.ref f12)))
    (l12 : K.lookup f12 = some ⟨oc12, od12, .func (PySem.W.fnOf "least_of" "least_of" (defArgs s_least_of) (defBody s_least_of) (defScope s_least_of) .none kV12 dc12 pm12 an12 cd12 ct12), sl12⟩)
    (c12 : PySem.W.codeIn K cd12 "least_of" = true)
    (k12 : PySem.W.keepIn K (.ref f12) = true)
    (a13 : PySem.W.nsIn K mainGlobals "look_rows" = some (some (.ref f13)))
    (l13 : K.lookup f13 = some ⟨oc13, od13, .func (PySem.W.fnOf "look_rows" "look_rows" (defArgs s_look_rows) (defBody s_look_rows) (defScope s_look_rows) .none kV13 dc13 pm13 an13 cd13 ct13), sl13⟩)
    (c13 : PySem.W.codeIn K cd13 "look_rows" = true)
    (k13 : PySem.W.keepIn K (.ref f13) = true)
    (a14 : PySem.W.nsIn K mainGlobals "least_sieve" = some (some (.ref f14)))
    (l14 : K.lookup f14 = some ⟨oc14, od14, .func (PySem.W.fnOf "least_sieve" "least_sieve" (defArgs s_least_sieve) (defBody s_least_sieve) (defScope s_least_sieve) .none kV14 dc14 pm14 an14 cd14 ct14), sl14⟩)
    (c14 : PySem.W.codeIn K cd14 "least_sieve" = true)
    (k14 : PySem.W.keepIn K (.ref f14) = true)
    (a15 : PySem.W.nsIn K mainGlobals "last_points" = some (some (.ref f15)))
    (l15 : K.lookup f15 = some ⟨oc15, od15, .func (PySem.W.fnOf "last_points" "last_points" (defArgs s_last_points) (defBody s_last_points) (defScope s_last_points) .none kV15 dc15 pm15 an15 cd15 ct15), sl15⟩)
    (c15 : PySem.W.codeIn K cd15 "last_points" = true)
    (k15 : PySem.W.keepIn K (.ref f15) = true)
    (i16 : PySem.W.isFn K (.ref f16) = true)
    (l16 : K.lookup f16 = some ⟨oc16, od16, .func (PySem.W.fnOf "look" "Rule.look" (defArgs s_Rule_look) (defBody s_Rule_look) (defScope s_Rule_look) .none kV16 dc16 pm16 an16 cd16 ct16), sl16⟩)
    (c16 : PySem.W.codeIn K cd16 "Rule.look" = true)
    (k16 : PySem.W.keepIn K (.ref f16) = true)
    (i17 : PySem.W.isFn K (.ref f17) = true)
    (l17 : K.lookup f17 = some ⟨oc17, od17, .func (PySem.W.fnOf "left" "Rule.left" (defArgs s_Rule_left) (defBody s_Rule_left) (defScope s_Rule_left) .none kV17 dc17 pm17 an17 cd17 ct17), sl17⟩)
    (c17 : PySem.W.codeIn K cd17 "Rule.left" = true)
    (k17 : PySem.W.keepIn K (.ref f17) = true)
    (i18 : PySem.W.isFn K (.ref f18) = true)
    (l18 : K.lookup f18 = some ⟨oc18, od18, .func (PySem.W.fnOf "shut_all" "Rule.shut_all" (defArgs s_Rule_shut_all) (defBody s_Rule_shut_all) (defScope s_Rule_shut_all) .none kV18 dc18 pm18 an18 cd18 ct18), sl18⟩)
    (c18 : PySem.W.codeIn K cd18 "Rule.shut_all" = true)
    (k18 : PySem.W.keepIn K (.ref f18) = true)
    (i19 : PySem.W.isFn K (.ref f19) = true)
    (l19 : K.lookup f19 = some ⟨oc19, od19, .func (PySem.W.fnOf "opened" "Rule.opened" (defArgs s_Rule_opened) (defBody s_Rule_opened) (defScope s_Rule_opened) .none kV19 dc19 pm19 an19 cd19 ct19), sl19⟩)
    (c19 : PySem.W.codeIn K cd19 "Rule.opened" = true)
    (k19 : PySem.W.keepIn K (.ref f19) = true)
    (i20 : PySem.W.isFn K (.ref f20) = true)
    (l20 : K.lookup f20 = some ⟨oc20, od20, .func (PySem.W.fnOf "stepped" "Rule.stepped" (defArgs s_Rule_stepped) (defBody s_Rule_stepped) (defScope s_Rule_stepped) .none kV20 dc20 pm20 an20 cd20 ct20), sl20⟩)
    (c20 : PySem.W.codeIn K cd20 "Rule.stepped" = true)
    (k20 : PySem.W.keepIn K (.ref f20) = true)
    (i21 : PySem.W.isFn K (.ref f21) = true)
    (l21 : K.lookup f21 = some ⟨oc21, od21, .func (PySem.W.fnOf "fits" "Rule.fits" (defArgs s_Rule_fits) (defBody s_Rule_fits) (defScope s_Rule_fits) .none kV21 dc21 pm21 an21 cd21 ct21), sl21⟩)
    (c21 : PySem.W.codeIn K cd21 "Rule.fits" = true)
    (k21 : PySem.W.keepIn K (.ref f21) = true)
    (a22 : PySem.W.nsIn K mainGlobals "number_of_state" = some (some (.ref f22)))
    (l22 : K.lookup f22 = some ⟨oc22, od22, .func (PySem.W.fnOf "number_of_state" "number_of_state" (defArgs s_number_of_state) (defBody s_number_of_state) (defScope s_number_of_state) .none kV22 dc22 pm22 an22 cd22 ct22), sl22⟩)
    (c22 : PySem.W.codeIn K cd22 "number_of_state" = true)
    (k22 : PySem.W.keepIn K (.ref f22) = true)
    (a23 : PySem.W.nsIn K mainGlobals "levels_of" = some (some (.ref f23)))
    (l23 : K.lookup f23 = some ⟨oc23, od23, .func (PySem.W.fnOf "levels_of" "levels_of" (defArgs s_levels_of) (defBody s_levels_of) (defScope s_levels_of) .none kV23 dc23 pm23 an23 cd23 ct23), sl23⟩)
    (c23 : PySem.W.codeIn K cd23 "levels_of" = true)
    (k23 : PySem.W.keepIn K (.ref f23) = true)
    (a24 : PySem.W.nsIn K mainGlobals "grown" = some (some (.ref f24)))
    (l24 : K.lookup f24 = some ⟨oc24, od24, .func (PySem.W.fnOf "grown" "grown" (defArgs s_grown) (defBody s_grown) (defScope s_grown) .none kV24 dc24 pm24 an24 cd24 ct24), sl24⟩)
    (c24 : PySem.W.codeIn K cd24 "grown" = true)
    (k24 : PySem.W.keepIn K (.ref f24) = true)
    (a25 : PySem.W.nsIn K mainGlobals "tied_mates" = some (some (.ref f25)))
    (l25 : K.lookup f25 = some ⟨oc25, od25, .func (PySem.W.fnOf "tied_mates" "tied_mates" (defArgs s_tied_mates) (defBody s_tied_mates) (defScope s_tied_mates) .none kV25 dc25 pm25 an25 cd25 ct25), sl25⟩)
    (c25 : PySem.W.codeIn K cd25 "tied_mates" = true)
    (k25 : PySem.W.keepIn K (.ref f25) = true)
    (a26 : PySem.W.nsIn K mainGlobals "are_ended" = some (some (.ref f26)))
    (l26 : K.lookup f26 = some ⟨oc26, od26, .func (PySem.W.fnOf "are_ended" "are_ended" (defArgs s_are_ended) (defBody s_are_ended) (defScope s_are_ended) .none kV26 dc26 pm26 an26 cd26 ct26), sl26⟩)
    (c26 : PySem.W.codeIn K cd26 "are_ended" = true)
    (k26 : PySem.W.keepIn K (.ref f26) = true)
    (i27 : PySem.W.isFn K (.ref f27) = true)
    (l27 : K.lookup f27 = some ⟨oc27, od27, .func (PySem.W.fnOf "begin" "Rings.begin" (defArgs s_Rings_begin) (defBody s_Rings_begin) (defScope s_Rings_begin) .none kV27 dc27 pm27 an27 cd27 ct27), sl27⟩)
    (c27 : PySem.W.codeIn K cd27 "Rings.begin" = true)
    (k27 : PySem.W.keepIn K (.ref f27) = true)
    (i28 : PySem.W.isFn K (.ref f28) = true)
    (l28 : K.lookup f28 = some ⟨oc28, od28, .func (PySem.W.fnOf "took" "Rings.took" (defArgs s_Rings_took) (defBody s_Rings_took) (defScope s_Rings_took) .none kV28 dc28 pm28 an28 cd28 ct28), sl28⟩)
    (c28 : PySem.W.codeIn K cd28 "Rings.took" = true)
    (k28 : PySem.W.keepIn K (.ref f28) = true)
    (i29 : PySem.W.isFn K (.ref f29) = true)
    (l29 : K.lookup f29 = some ⟨oc29, od29, .func (PySem.W.fnOf "shut" "Rings.shut" (defArgs s_Rings_shut) (defBody s_Rings_shut) (defScope s_Rings_shut) .none kV29 dc29 pm29 an29 cd29 ct29), sl29⟩)
    (c29 : PySem.W.codeIn K cd29 "Rings.shut" = true)
    (k29 : PySem.W.keepIn K (.ref f29) = true)
    (i30 : PySem.W.isFn K (.ref f30) = true)
    (l30 : K.lookup f30 = some ⟨oc30, od30, .func (PySem.W.fnOf "good" "Rings.good" (defArgs s_Rings_good) (defBody s_Rings_good) (defScope s_Rings_good) .none kV30 dc30 pm30 an30 cd30 ct30), sl30⟩)
    (c30 : PySem.W.codeIn K cd30 "Rings.good" = true)
    (k30 : PySem.W.keepIn K (.ref f30) = true)
    (i31 : PySem.W.isFn K (.ref f31) = true)
    (l31 : K.lookup f31 = some ⟨oc31, od31, .func (PySem.W.fnOf "shut" "Rounds.shut" (defArgs s_Rounds_shut) (defBody s_Rounds_shut) (defScope s_Rounds_shut) .none kV31 dc31 pm31 an31 cd31 ct31), sl31⟩)
    (c31 : PySem.W.codeIn K cd31 "Rounds.shut" = true)
    (k31 : PySem.W.keepIn K (.ref f31) = true)
    (i32 : PySem.W.isFn K (.ref f32) = true)
    (l32 : K.lookup f32 = some ⟨oc32, od32, .func (PySem.W.fnOf "__init__" "Web.__init__" (defArgs s_Web_init) (defBody s_Web_init) (defScope s_Web_init) .none kV32 dc32 pm32 an32 cd32 ct32), sl32⟩)
    (c32 : PySem.W.codeIn K cd32 "Web.__init__" = true)
    (k32 : PySem.W.keepIn K (.ref f32) = true)
    (i33 : PySem.W.isFn K (.ref f33) = true)
    (l33 : K.lookup f33 = some ⟨oc33, od33, .func (PySem.W.fnOf "good_tie" "Web.good_tie" (defArgs s_Web_good_tie) (defBody s_Web_good_tie) (defScope s_Web_good_tie) .none kV33 dc33 pm33 an33 cd33 ct33), sl33⟩)
    (c33 : PySem.W.codeIn K cd33 "Web.good_tie" = true)
    (k33 : PySem.W.keepIn K (.ref f33) = true)
    (i34 : PySem.W.isFn K (.ref f34) = true)
    (l34 : K.lookup f34 = some ⟨oc34, od34, .func (PySem.W.fnOf "size" "Web.size" (defArgs s_Web_size) (defBody s_Web_size) (defScope s_Web_size) .none kV34 dc34 pm34 an34 cd34 ct34), sl34⟩)
    (c34 : PySem.W.codeIn K cd34 "Web.size" = true)
    (k34 : PySem.W.keepIn K (.ref f34) = true)
    (i35 : PySem.W.isFn K (.ref f35) = true)
    (l35 : K.lookup f35 = some ⟨oc35, od35, .func (PySem.W.fnOf "ties" "Web.ties" (defArgs s_Web_ties) (defBody s_Web_ties) (defScope s_Web_ties) .none kV35 dc35 pm35 an35 cd35 ct35), sl35⟩)
    (c35 : PySem.W.codeIn K cd35 "Web.ties" = true)
    (k35 : PySem.W.keepIn K (.ref f35) = true)
    (i36 : PySem.W.isFn K (.ref f36) = true)
    (l36 : K.lookup f36 = some ⟨oc36, od36, .func (PySem.W.fnOf "at" "Web.at" (defArgs s_Web_at) (defBody s_Web_at) (defScope s_Web_at) .none kV36 dc36 pm36 an36 cd36 ct36), sl36⟩)
    (c36 : PySem.W.codeIn K cd36 "Web.at" = true)
    (k36 : PySem.W.keepIn K (.ref f36) = true)
    (a37 : PySem.W.nsIn K mainGlobals "_law_at" = some (some (.ref f37)))
    (l37 : K.lookup f37 = some ⟨oc37, od37, .func (PySem.W.fnOf "_law_at" "_law_at" (defArgs s_law_at) (defBody s_law_at) (defScope s_law_at) .none kV37 dc37 pm37 an37 cd37 ct37), sl37⟩)
    (c37 : PySem.W.codeIn K cd37 "_law_at" = true)
    (k37 : PySem.W.keepIn K (.ref f37) = true)
    (a38 : PySem.W.nsIn K mainGlobals "_law_mixed" = some (some (.ref f38)))
    (l38 : K.lookup f38 = some ⟨oc38, od38, .func (PySem.W.fnOf "_law_mixed" "_law_mixed" (defArgs s_law_mixed) (defBody s_law_mixed) (defScope s_law_mixed) .none kV38 dc38 pm38 an38 cd38 ct38), sl38⟩)
    (c38 : PySem.W.codeIn K cd38 "_law_mixed" = true)
    (k38 : PySem.W.keepIn K (.ref f38) = true)
    (a39 : PySem.W.nsIn K mainGlobals "_law_rows" = some (some (.ref f39)))
    (l39 : K.lookup f39 = some ⟨oc39, od39, .func (PySem.W.fnOf "_law_rows" "_law_rows" (defArgs s_law_rows) (defBody s_law_rows) (defScope s_law_rows) .none kV39 dc39 pm39 an39 cd39 ct39), sl39⟩)
    (c39 : PySem.W.codeIn K cd39 "_law_rows" = true)
    (k39 : PySem.W.keepIn K (.ref f39) = true)
    (a40 : PySem.W.nsIn K mainGlobals "_law_web" = some (some (.ref f40)))
    (l40 : K.lookup f40 = some ⟨oc40, od40, .func (PySem.W.fnOf "_law_web" "_law_web" (defArgs s_law_web) (defBody s_law_web) (defScope s_law_web) .none kV40 dc40 pm40 an40 cd40 ct40), sl40⟩)
    (c40 : PySem.W.codeIn K cd40 "_law_web" = true)
    (k40 : PySem.W.keepIn K (.ref f40) = true)
    (a41 : PySem.W.nsIn K mainGlobals "_law_bits" = some (some (.ref f41)))
    (l41 : K.lookup f41 = some ⟨oc41, od41, .func (PySem.W.fnOf "_law_bits" "_law_bits" (defArgs s_law_bits) (defBody s_law_bits) (defScope s_law_bits) .none kV41 dc41 pm41 an41 cd41 ct41), sl41⟩)
    (c41 : PySem.W.codeIn K cd41 "_law_bits" = true)
    (k41 : PySem.W.keepIn K (.ref f41) = true)
    (a42 : PySem.W.nsIn K mainGlobals "_law_walked" = some (some (.ref f42)))
    (l42 : K.lookup f42 = some ⟨oc42, od42, .func (PySem.W.fnOf "_law_walked" "_law_walked" (defArgs s_law_walked) (defBody s_law_walked) (defScope s_law_walked) .none kV42 dc42 pm42 an42 cd42 ct42), sl42⟩)
    (c42 : PySem.W.codeIn K cd42 "_law_walked" = true)
    (k42 : PySem.W.keepIn K (.ref f42) = true)
    (a43 : PySem.W.nsIn K mainGlobals "_law_round" = some (some (.ref f43)))
    (l43 : K.lookup f43 = some ⟨oc43, od43, .func (PySem.W.fnOf "_law_round" "_law_round" (defArgs s_law_round) (defBody s_law_round) (defScope s_law_round) .none kV43 dc43 pm43 an43 cd43 ct43), sl43⟩)
    (c43 : PySem.W.codeIn K cd43 "_law_round" = true)
    (k43 : PySem.W.keepIn K (.ref f43) = true)
    (a44 : PySem.W.nsIn K mainGlobals "_law_set" = some (some (.ref f44)))
    (l44 : K.lookup f44 = some ⟨oc44, od44, .func (PySem.W.fnOf "_law_set" "_law_set" (defArgs s_law_set) (defBody s_law_set) (defScope s_law_set) .none kV44 dc44 pm44 an44 cd44 ct44), sl44⟩)
    (c44 : PySem.W.codeIn K cd44 "_law_set" = true)
    (k44 : PySem.W.keepIn K (.ref f44) = true)
    (a45 : PySem.W.nsIn K mainGlobals "_law_right" = some (some (.ref f45)))
    (l45 : K.lookup f45 = some ⟨oc45, od45, .func (PySem.W.fnOf "_law_right" "_law_right" (defArgs s_law_right) (defBody s_law_right) (defScope s_law_right) .none kV45 dc45 pm45 an45 cd45 ct45), sl45⟩)
    (c45 : PySem.W.codeIn K cd45 "_law_right" = true)
    (k45 : PySem.W.keepIn K (.ref f45) = true)
    (a46 : PySem.W.nsIn K mainGlobals "_law_elsewhere" = some (some (.ref f46)))
    (l46 : K.lookup f46 = some ⟨oc46, od46, .func (PySem.W.fnOf "_law_elsewhere" "_law_elsewhere" (defArgs s_law_elsewhere) (defBody s_law_elsewhere) (defScope s_law_elsewhere) .none kV46 dc46 pm46 an46 cd46 ct46), sl46⟩)
    (c46 : PySem.W.codeIn K cd46 "_law_elsewhere" = true)
    (k46 : PySem.W.keepIn K (.ref f46) = true)
    (a47 : PySem.W.nsIn K mainGlobals "law" = some (some (.ref f47)))
    (l47 : K.lookup f47 = some ⟨oc47, od47, .func (PySem.W.fnOf "law" "law" (defArgs s_law) (defBody s_law) (defScope s_law) .none kV47 dc47 pm47 an47 cd47 ct47), sl47⟩)
    (c47 : PySem.W.codeIn K cd47 "law" = true)
    (k47 : PySem.W.keepIn K (.ref f47) = true)
    (z_len : PySem.W.nsIn K mainGlobals "len" = some none)
    (z_list : PySem.W.nsIn K mainGlobals "list" = some none)
    (z_tuple : PySem.W.nsIn K mainGlobals "tuple" = some none)
    (z_range : PySem.W.nsIn K mainGlobals "range" = some none)
    (z_enumerate : PySem.W.nsIn K mainGlobals "enumerate" = some none)
    (z_sorted : PySem.W.nsIn K mainGlobals "sorted" = some none)
    (z_reversed : PySem.W.nsIn K mainGlobals "reversed" = some none)
    (z_min : PySem.W.nsIn K mainGlobals "min" = some none)
    (z_max : PySem.W.nsIn K mainGlobals "max" = some none)
    (z_int : PySem.W.nsIn K mainGlobals "int" = some none)
    (z_all : PySem.W.nsIn K mainGlobals "all" = some none)
    (z_isinstance : PySem.W.nsIn K mainGlobals "isinstance" = some none)
    (y_MOST_TIES_making : PySem.W.nsIn K mainGlobals "MOST_TIES_making" = some (some (.int 12 t_MOST_TIES_making)))
    (y_AMID : PySem.W.nsIn K mainGlobals "AMID" = some (some (.int (-1) t_AMID)))
    (y_MOST_POINTS : PySem.W.nsIn K mainGlobals "MOST_POINTS" = some (some (.int 10 t_MOST_POINTS)))
    (y_MOST_TIES_webs : PySem.W.nsIn K mainGlobals "MOST_TIES_webs" = some (some (.int 12 t_MOST_TIES_webs)))
    : ∃ fd : FuncData, (∀ (s : Shared) (v : Value), BindsTo s fd ⟨[v], []⟩ [("_law_script", v)]) ∧ ∀ base : Heap, K.In base → base.Ns mainGlobals mg → FnOk l.prog w K mg base CX0 lawLevel fa fd ["_law_script"] (sp_law K) := by
  have e := hfa.symm.trans (PySem.W.mg_of X G a47)
  cases e
  have F0 := fun_mk (st := s_Sieve_init) l0 c0 k0
  have F1 := fun_mk (st := s_Sieve_many) l1 c1 k1
  have F2 := fun_mk (st := s_Sieve_knots) l2 c2 k2
  have F3 := fun_mk (st := s_Sieve_top) l3 c3 k3
  have F4 := fun_mk (st := s_knot_sets) l4 c4 k4
  have F5 := fun_mk (st := s_sets_of) l5 c5 k5
  have F6 := fun_mk (st := s_led_to) l6 c6 k6
  have F7 := fun_mk (st := s_has_set) l7 c7 k7
  have F8 := fun_mk (st := s_look_many) l8 c8 k8
  have F9 := fun_mk (st := s_merged_knots) l9 c9 k9
  have F10 := fun_mk (st := s_knots_reached) l10 c10 k10
  have F11 := fun_mk (st := s_numbered_sieve) l11 c11 k11
  have F12 := fun_mk (st := s_least_of) l12 c12 k12
  have F13 := fun_mk (st := s_look_rows) l13 c13 k13
  have F14 := fun_mk (st := s_least_sieve) l14 c14 k14
  have F15 := fun_mk (st := s_last_points) l15 c15 k15
  have F16 := fun_mk (st := s_Rule_look) l16 c16 k16
  have F17 := fun_mk (st := s_Rule_left) l17 c17 k17
  have F18 := fun_mk (st := s_Rule_shut_all) l18 c18 k18
  have F19 := fun_mk (st := s_Rule_opened) l19 c19 k19
  have F20 := fun_mk (st := s_Rule_stepped) l20 c20 k20
  have F21 := fun_mk (st := s_Rule_fits) l21 c21 k21
  have F22 := fun_mk (st := s_number_of_state) l22 c22 k22
  have F23 := fun_mk (st := s_levels_of) l23 c23 k23
  have F24 := fun_mk (st := s_grown) l24 c24 k24
  have F25 := fun_mk (st := s_tied_mates) l25 c25 k25
  have F26 := fun_mk (st := s_are_ended) l26 c26 k26
  have F27 := fun_mk (st := s_Rings_begin) l27 c27 k27
  have F28 := fun_mk (st := s_Rings_took) l28 c28 k28
  have F29 := fun_mk (st := s_Rings_shut) l29 c29 k29
  have F30 := fun_mk (st := s_Rings_good) l30 c30 k30
  have F31 := fun_mk (st := s_Rounds_shut) l31 c31 k31
  have F32 := fun_mk (st := s_Web_init) l32 c32 k32
  have F33 := fun_mk (st := s_Web_good_tie) l33 c33 k33
  have F34 := fun_mk (st := s_Web_size) l34 c34 k34
  have F35 := fun_mk (st := s_Web_ties) l35 c35 k35
  have F36 := fun_mk (st := s_Web_at) l36 c36 k36
  have F37 := fun_mk (st := s_law_at) l37 c37 k37
  have F38 := fun_mk (st := s_law_mixed) l38 c38 k38
  have F39 := fun_mk (st := s_law_rows) l39 c39 k39
  have F40 := fun_mk (st := s_law_web) l40 c40 k40
  have F41 := fun_mk (st := s_law_bits) l41 c41 k41
  have F42 := fun_mk (st := s_law_walked) l42 c42 k42
  have F43 := fun_mk (st := s_law_round) l43 c43 k43
  have F44 := fun_mk (st := s_law_set) l44 c44 k44
  have F45 := fun_mk (st := s_law_right) l45 c45 k45
  have F46 := fun_mk (st := s_law_elsewhere) l46 c46 k46
  have F47 := fun_mk (st := s_law) l47 c47 k47
  let A : Ad := { c_Sieve := c_Sieve, c_Rule := c_Rule, c_Rings := c_Rings, c_Rounds := c_Rounds, c_Web := c_Web, f_Sieve_init := f0, d_Sieve_init := fdOf F0, f_Sieve_many := f1, d_Sieve_many := fdOf F1, f_Sieve_knots := f2, d_Sieve_knots := fdOf F2, f_Sieve_top := f3, d_Sieve_top := fdOf F3, f_knot_sets := f4, d_knot_sets := fdOf F4, f_sets_of := f5, d_sets_of := fdOf F5, f_led_to := f6, d_led_to := fdOf F6, f_has_set := f7, d_has_set := fdOf F7, f_look_many := f8, d_look_many := fdOf F8, f_merged_knots := f9, d_merged_knots := fdOf F9, f_knots_reached := f10, d_knots_reached := fdOf F10, f_numbered_sieve := f11, d_numbered_sieve := fdOf F11, f_least_of := f12, d_least_of := fdOf F12, f_look_rows := f13, d_look_rows := fdOf F13, f_least_sieve := f14, d_least_sieve := fdOf F14, f_last_points := f15, d_last_points := fdOf F15, f_Rule_look := f16, d_Rule_look := fdOf F16, f_Rule_left := f17, d_Rule_left := fdOf F17, f_Rule_shut_all := f18, d_Rule_shut_all := fdOf F18, f_Rule_opened := f19, d_Rule_opened := fdOf F19, f_Rule_stepped := f20, d_Rule_stepped := fdOf F20, f_Rule_fits := f21, d_Rule_fits := fdOf F21, f_number_of_state := f22, d_number_of_state := fdOf F22, f_levels_of := f23, d_levels_of := fdOf F23, f_grown := f24, d_grown := fdOf F24, f_tied_mates := f25, d_tied_mates := fdOf F25, f_are_ended := f26, d_are_ended := fdOf F26, f_Rings_begin := f27, d_Rings_begin := fdOf F27, f_Rings_took := f28, d_Rings_took := fdOf F28, f_Rings_shut := f29, d_Rings_shut := fdOf F29, f_Rings_good := f30, d_Rings_good := fdOf F30, f_Rounds_shut := f31, d_Rounds_shut := fdOf F31, f_Web_init := f32, d_Web_init := fdOf F32, f_Web_good_tie := f33, d_Web_good_tie := fdOf F33, f_Web_size := f34, d_Web_size := fdOf F34, f_Web_ties := f35, d_Web_ties := fdOf F35, f_Web_at := f36, d_Web_at := fdOf F36, f_law_at := f37, d_law_at := fdOf F37, f_law_mixed := f38, d_law_mixed := fdOf F38, f_law_rows := f39, d_law_rows := fdOf F39, f_law_web := f40, d_law_web := fdOf F40, f_law_bits := f41, d_law_bits := fdOf F41, f_law_walked := f42, d_law_walked := fdOf F42, f_law_round := f43, d_law_round := fdOf F43, f_law_set := f44, d_law_set := fdOf F44, f_law_right := f45, d_law_right := fdOf F45, f_law_elsewhere := f46, d_law_elsewhere := fdOf F46, f_law := fa, d_law := fdOf F47 }
  have T : Txt K mg A := {
    g_Sieve := PySem.W.mg_of X G aC_Sieve
    g_Rule := PySem.W.mg_of X G aC_Rule
    g_Rings := PySem.W.mg_of X G aC_Rings
    g_Rounds := PySem.W.mg_of X G aC_Rounds
    g_Web := PySem.W.mg_of X G aC_Web
    cl_Sieve := ⟨pg_Sieve, hd_Sieve, po_Sieve, sa_Sieve⟩
    cl_Rings := ⟨pg_Rings, hd_Rings, po_Rings, sa_Rings⟩
    cl_Rounds := ⟨pg_Rounds, hd_Rounds, po_Rounds, sa_Rounds⟩
    cl_Web := ⟨pg_Web, hd_Web, po_Web, sa_Web⟩
    mk_Sieve := ⟨mk_Sieve, in_Sieve, i0, kc_Sieve⟩
    n_Sieve_wide := n_Sieve_wide
    n_Sieve_rows := n_Sieve_rows
    n_Sieve_start := n_Sieve_start
    mk_Web := ⟨mk_Web, in_Web, i32, kc_Web⟩
    n_Web_point_count := n_Web_point_count
    n_Web_rows := n_Web_rows
    mk_Rings := mk_Rings
    in_Rings := in_Rings
    kc_Rings := kc_Rings
    is_Rings := kit_isIn is_Rings
    ca_Rings := ca_Rings
    cm_Rings := cm_Rings
    mk_Rounds := mk_Rounds
    in_Rounds := in_Rounds
    kc_Rounds := kc_Rounds
    is_Rounds := kit_isIn is_Rounds
    ca_Rounds := ca_Rounds
    cm_Rounds := cm_Rounds
    x_get := x_get
    x_tak := x_tak
    F_Sieve_init := F0
    b_Sieve_init := F0.binds (ps := ["self", "wide", "rows", "start"]) fun _ _ _ _ _ _ us hl => match us, hl with | [_, _, _, _], _ => rfl
    F_Sieve_many := F1
    b_Sieve_many := F1.binds (ps := ["self"]) fun _ _ _ _ _ _ us hl => match us, hl with | [_], _ => rfl
    F_Sieve_knots := F2
    b_Sieve_knots := F2.binds (ps := ["self"]) fun _ _ _ _ _ _ us hl => match us, hl with | [_], _ => rfl
    F_Sieve_top := F3
    b_Sieve_top := F3.binds (ps := ["self"]) fun _ _ _ _ _ _ us hl => match us, hl with | [_], _ => rfl
    F_knot_sets := F4
    b_knot_sets := F4.binds (ps := ["sieve"]) fun _ _ _ _ _ _ us hl => match us, hl with | [_], _ => rfl
    g_knot_sets := PySem.W.mg_of X G a4
    F_sets_of := F5
    b_sets_of := F5.binds (ps := ["sieve"]) fun _ _ _ _ _ _ us hl => match us, hl with | [_], _ => rfl
    g_sets_of := PySem.W.mg_of X G a5
    F_led_to := F6
    b_led_to := F6.binds (ps := ["sieve", "knot", "some"]) fun _ _ _ _ _ _ us hl => match us, hl with | [_, _, _], _ => rfl
    g_led_to := PySem.W.mg_of X G a6
    F_has_set := F7
    b_has_set := F7.binds (ps := ["sieve", "some"]) fun _ _ _ _ _ _ us hl => match us, hl with | [_, _], _ => rfl
    g_has_set := PySem.W.mg_of X G a7
    F_look_many := F8
    b_look_many := F8.binds (ps := ["n"]) fun _ _ _ _ _ _ us hl => match us, hl with | [_], _ => rfl
    g_look_many := PySem.W.mg_of X G a8
    F_merged_knots := F9
    b_merged_knots := F9.binds (ps := ["rows"]) fun _ _ _ _ _ _ us hl => match us, hl with | [_], _ => rfl
    g_merged_knots := PySem.W.mg_of X G a9
    F_knots_reached := F10
    b_knots_reached := F10.binds (ps := ["kept", "top"]) fun _ _ _ _ _ _ us hl => match us, hl with | [_, _], _ => rfl
    g_knots_reached := PySem.W.mg_of X G a10
    F_numbered_sieve := F11
    b_numbered_sieve := F11.binds (ps := ["n", "kept", "top"]) fun _ _ _ _ _ _ us hl => match us, hl with | [_, _, _], _ => rfl
    g_numbered_sieve := PySem.W.mg_of X G a11
    F_least_of := F12
    b_least_of := F12.binds (ps := ["n", "rows", "top"]) fun _ _ _ _ _ _ us hl => match us, hl with | [_, _, _], _ => rfl
    g_least_of := PySem.W.mg_of X G a12
    F_look_rows := F13
    b_look_rows := F13.binds (ps := ["n", "rows", "top"]) fun _ _ _ _ _ _ us hl => match us, hl with | [_, _, _], _ => rfl
    g_look_rows := PySem.W.mg_of X G a13
    F_least_sieve := F14
    b_least_sieve := F14.binds (ps := ["n", "rows", "top"]) fun _ _ _ _ _ _ us hl => match us, hl with | [_, _, _], _ => rfl
    g_least_sieve := PySem.W.mg_of X G a14
    F_last_points := F15
    b_last_points := F15.binds (ps := ["web"]) fun _ _ _ _ _ _ us hl => match us, hl with | [_], _ => rfl
    g_last_points := PySem.W.mg_of X G a15
    F_Rule_look := F16
    b_Rule_look := F16.binds (ps := ["self", "web"]) fun _ _ _ _ _ _ us hl => match us, hl with | [_, _], _ => rfl
    F_Rule_left := F17
    b_Rule_left := F17.binds (ps := ["self", "web", "state", "k"]) fun _ _ _ _ _ _ us hl => match us, hl with | [_, _, _, _], _ => rfl
    F_Rule_shut_all := F18
    b_Rule_shut_all := F18.binds (ps := ["self", "web", "state", "points"]) fun _ _ _ _ _ _ us hl => match us, hl with | [_, _, _, _], _ => rfl
    F_Rule_opened := F19
    b_Rule_opened := F19.binds (ps := ["self", "web"]) fun _ _ _ _ _ _ us hl => match us, hl with | [_, _], _ => rfl
    F_Rule_stepped := F20
    b_Rule_stepped := F20.binds (ps := ["self", "web", "state", "k", "taken", "last"]) fun _ _ _ _ _ _ us hl => match us, hl with | [_, _, _, _, _, _], _ => rfl
    F_Rule_fits := F21
    b_Rule_fits := F21.binds (ps := ["self", "web", "some"]) fun _ _ _ _ _ _ us hl => match us, hl with | [_, _, _], _ => rfl
    F_number_of_state := F22
    b_number_of_state := F22.binds (ps := ["state", "numbers"]) fun _ _ _ _ _ _ us hl => match us, hl with | [_, _], _ => rfl
    g_number_of_state := PySem.W.mg_of X G a22
    F_levels_of := F23
    b_levels_of := F23.binds (ps := ["web", "rule"]) fun _ _ _ _ _ _ us hl => match us, hl with | [_, _], _ => rfl
    g_levels_of := PySem.W.mg_of X G a23
    F_grown := F24
    b_grown := F24.binds (ps := ["web", "rule"]) fun _ _ _ _ _ _ us hl => match us, hl with | [_, _], _ => rfl
    g_grown := PySem.W.mg_of X G a24
    F_tied_mates := F25
    b_tied_mates := F25.binds (ps := ["mates", "one", "other"]) fun _ _ _ _ _ _ us hl => match us, hl with | [_, _, _], _ => rfl
    g_tied_mates := PySem.W.mg_of X G a25
    F_are_ended := F26
    b_are_ended := F26.binds (ps := ["mates"]) fun _ _ _ _ _ _ us hl => match us, hl with | [_], _ => rfl
    g_are_ended := PySem.W.mg_of X G a26
    F_Rings_begin := F27
    b_Rings_begin := F27.binds (ps := ["self", "web"]) fun _ _ _ _ _ _ us hl => match us, hl with | [_, _], _ => rfl
    F_Rings_took := F28
    b_Rings_took := F28.binds (ps := ["self", "web", "state", "k"]) fun _ _ _ _ _ _ us hl => match us, hl with | [_, _, _, _], _ => rfl
    F_Rings_shut := F29
    b_Rings_shut := F29.binds (ps := ["self", "web", "state", "point"]) fun _ _ _ _ _ _ us hl => match us, hl with | [_, _, _, _], _ => rfl
    F_Rings_good := F30
    b_Rings_good := F30.binds (ps := ["self", "web", "state"]) fun _ _ _ _ _ _ us hl => match us, hl with | [_, _, _], _ => rfl
    F_Rounds_shut := F31
    b_Rounds_shut := F31.binds (ps := ["self", "web", "state", "point"]) fun _ _ _ _ _ _ us hl => match us, hl with | [_, _, _, _], _ => rfl
    F_Web_init := F32
    b_Web_init := F32.binds (ps := ["self", "many", "ties"]) fun _ _ _ _ _ _ us hl => match us, hl with | [_, _, _], _ => rfl
    F_Web_good_tie := F33
    b_Web_good_tie := F33.binds (ps := ["self", "low", "high"]) fun _ _ _ _ _ _ us hl => match us, hl with | [_, _, _], _ => rfl
    F_Web_size := F34
    b_Web_size := F34.binds (ps := ["self"]) fun _ _ _ _ _ _ us hl => match us, hl with | [_], _ => rfl
    F_Web_ties := F35
    b_Web_ties := F35.binds (ps := ["self"]) fun _ _ _ _ _ _ us hl => match us, hl with | [_], _ => rfl
    F_Web_at := F36
    b_Web_at := F36.binds (ps := ["self", "point"]) fun _ _ _ _ _ _ us hl => match us, hl with | [_, _], _ => rfl
    F_law_at := F37
    b_law_at := F37.binds (ps := ["_law_script", "_law_k"]) fun _ _ _ _ _ _ us hl => match us, hl with | [_, _], _ => rfl
    g_law_at := PySem.W.mg_of X G a37
    F_law_mixed := F38
    b_law_mixed := F38.binds (ps := ["_law_cell"]) fun _ _ _ _ _ _ us hl => match us, hl with | [_], _ => rfl
    g_law_mixed := PySem.W.mg_of X G a38
    F_law_rows := F39
    b_law_rows := F39.binds (ps := ["_law_many", "_law_number"]) fun _ _ _ _ _ _ us hl => match us, hl with | [_, _], _ => rfl
    g_law_rows := PySem.W.mg_of X G a39
    F_law_web := F40
    b_law_web := F40.binds (ps := ["_law_cell"]) fun _ _ _ _ _ _ us hl => match us, hl with | [_], _ => rfl
    g_law_web := PySem.W.mg_of X G a40
    F_law_bits := F41
    b_law_bits := F41.binds (ps := ["_law_rows_here", "_law_cell"]) fun _ _ _ _ _ _ us hl => match us, hl with | [_, _], _ => rfl
    g_law_bits := PySem.W.mg_of X G a41
    F_law_walked := F42
    b_law_walked := F42.binds (ps := ["_law_many", "_law_rows_here", "_law_cell"]) fun _ _ _ _ _ _ us hl => match us, hl with | [_, _, _], _ => rfl
    g_law_walked := PySem.W.mg_of X G a42
    F_law_round := F43
    b_law_round := F43.binds (ps := ["_law_rows_here", "_law_some"]) fun _ _ _ _ _ _ us hl => match us, hl with | [_, _], _ => rfl
    g_law_round := PySem.W.mg_of X G a43
    F_law_set := F44
    b_law_set := F44.binds (ps := ["_law_many", "_law_rows_here", "_law_told", "_law_cell", "_law_k"]) fun _ _ _ _ _ _ us hl => match us, hl with | [_, _, _, _, _], _ => rfl
    g_law_set := PySem.W.mg_of X G a44
    F_law_right := F45
    b_law_right := F45.binds (ps := ["_law_web_here", "_law_rule", "_law_sieve", "_law_some", "_law_due", "_law_asked"]) fun _ _ _ _ _ _ us hl => match us, hl with | [_, _, _, _, _, _], _ => rfl
    g_law_right := PySem.W.mg_of X G a45
    F_law_elsewhere := F46
    b_law_elsewhere := F46.binds (ps := ["_law_rules", "_law_many", "_law_rows_here"]) fun _ _ _ _ _ _ us hl => match us, hl with | [_, _, _], _ => rfl
    g_law_elsewhere := PySem.W.mg_of X G a46
    F_law := F47
    b_law := F47.binds (ps := ["_law_script"]) fun _ _ _ _ _ _ us hl => match us, hl with | [_], _ => rfl
    g_law := PySem.W.mg_of X G a47
    m_Sieve_many := ⟨m_Sieve_many, i1, k1⟩
    m_Sieve_knots := ⟨m_Sieve_knots, i2, k2⟩
    m_Sieve_top := ⟨m_Sieve_top, i3, k3⟩
    m_Web_good_tie := ⟨m_Web_good_tie, i33, k33⟩
    m_Web_size := ⟨m_Web_size, i34, k34⟩
    m_Web_ties := ⟨m_Web_ties, i35, k35⟩
    m_Web_at := ⟨m_Web_at, i36, k36⟩
    m_Rings_look := ⟨m_Rings_look, i16, k16⟩
    m_Rings_left := ⟨m_Rings_left, i17, k17⟩
    m_Rings_shut_all := ⟨m_Rings_shut_all, i18, k18⟩
    m_Rings_opened := ⟨m_Rings_opened, i19, k19⟩
    m_Rings_stepped := ⟨m_Rings_stepped, i20, k20⟩
    m_Rings_fits := ⟨m_Rings_fits, i21, k21⟩
    m_Rings_begin := ⟨m_Rings_begin, i27, k27⟩
    m_Rings_took := ⟨m_Rings_took, i28, k28⟩
    m_Rings_shut := ⟨m_Rings_shut, i29, k29⟩
    m_Rings_good := ⟨m_Rings_good, i30, k30⟩
    m_Rounds_look := ⟨m_Rounds_look, i16, k16⟩
    m_Rounds_left := ⟨m_Rounds_left, i17, k17⟩
    m_Rounds_shut_all := ⟨m_Rounds_shut_all, i18, k18⟩
    m_Rounds_opened := ⟨m_Rounds_opened, i19, k19⟩
    m_Rounds_stepped := ⟨m_Rounds_stepped, i20, k20⟩
    m_Rounds_fits := ⟨m_Rounds_fits, i21, k21⟩
    m_Rounds_begin := ⟨m_Rounds_begin, i27, k27⟩
    m_Rounds_took := ⟨m_Rounds_took, i28, k28⟩
    m_Rounds_good := ⟨m_Rounds_good, i30, k30⟩
    m_Rounds_shut := ⟨m_Rounds_shut, i31, k31⟩
    z_len := PySem.W.mg_none_of X G z_len
    z_list := PySem.W.mg_none_of X G z_list
    z_tuple := PySem.W.mg_none_of X G z_tuple
    z_range := PySem.W.mg_none_of X G z_range
    z_enumerate := PySem.W.mg_none_of X G z_enumerate
    z_sorted := PySem.W.mg_none_of X G z_sorted
    z_reversed := PySem.W.mg_none_of X G z_reversed
    z_min := PySem.W.mg_none_of X G z_min
    z_max := PySem.W.mg_none_of X G z_max
    z_int := PySem.W.mg_none_of X G z_int
    z_all := PySem.W.mg_none_of X G z_all
    z_isinstance := PySem.W.mg_none_of X G z_isinstance
    k_MOST_TIES_making := ⟨_, PySem.W.mg_of X G y_MOST_TIES_making⟩
    k_AMID := ⟨_, PySem.W.mg_of X G y_AMID⟩
    k_MOST_POINTS := ⟨_, PySem.W.mg_of X G y_MOST_POINTS⟩
    k_MOST_TIES_webs := ⟨_, PySem.W.mg_of X G y_MOST_TIES_webs⟩
  }
  exact ⟨_, fun s v => .of_eq rfl, fun base _ _ => ok_law T⟩
theorem walk_law {l : PySem.W.OpenLaw} {q : Program} {loose : List Str} {XP : (Str → Option Value) → Heap → Prop} {YP : World → Heap → Prop} {d : DefRec} {K : Params → PySem.W.Frag} (hn : l.most = some 63) (hdf : d.params.defaults = [])
    (hY : ∀ (w : World) (h : Heap), YP w h → (K w.params).In h)
    (F : ∀ (w : World) (mg : Str → Option Value) (fa : Addr) (h : Heap), (K w.params).In h → h.Ns mainGlobals mg → mg d.name = some (.ref fa) →
      ∃ fd : FuncData, (∀ (s : Shared) (u : Value), BindsTo s fd ⟨[u], []⟩ [("_law_script", u)]) ∧ ∀ base : Heap, (K w.params).In base → base.Ns mainGlobals mg → FnOk l.prog w (K w.params) mg base CX0 lawLevel fa fd ["_law_script"] (sp_law (K w.params))) :
    PySem.W.WalkO q loose XP YP l.row.toRowW d [] (fun f vs => PySem.call f vs) :=
  L2.walk_of (n := 63) (k := lawLevel) (x := "_law_script") (CX := fun _ => CX0) (sp := fun w => sp_law (K w.params)) hn (by decide) hdf ⟨rfl, by decide, by decide⟩ hY F (fun _ _ a ns hl _ hS => ⟨a, ns, rfl, hS, hl, fun _ => rfl⟩) fun _ _ _ _ _ z => z
end Fw
open PySem PySem.W PyProof.Rows
set_option maxRecDepth 100000 in
set_option maxHeartbeats 0 in
theorem PySem.Challenge.cw_frontways_k32_whole_rings_holds : PySem.Challenge.rw_frontways_k32_whole_rings.Holds := by
  w_on; o_law; k_head; (case hw => w_witness2)
  k_fill
  refine Fw.walk_law (l := PySem.Challenge.rw_frontways_k32_whole_rings) rfl rfl (fun w h Y => PySem.W.kIn_of Y) ?F
  case F =>
    intro w mg fa h KX G hmg
    refine' Fw.all_mk KX G hmg ?aC_Sieve ?aC_Rule ?aC_Rings ?aC_Rounds ?aC_Web ?pg_Sieve ?hd_Sieve ?po_Sieve ?sa_Sieve ?mk_Sieve ?kc_Sieve ?pg_Rings ?hd_Rings ?po_Rings ?sa_Rings ?mk_Rings ?kc_Rings ?pg_Rounds ?hd_Rounds ?po_Rounds ?sa_Rounds ?mk_Rounds ?kc_Rounds ?pg_Web ?hd_Web ?po_Web ?sa_Web ?mk_Web ?kc_Web ?in_Sieve ?n_Sieve_wide ?n_Sieve_rows ?n_Sieve_start ?in_Web ?n_Web_point_count ?n_Web_rows ?in_Rings ?is_Rings ?ca_Rings ?cm_Rings ?in_Rounds ?is_Rounds ?ca_Rounds ?cm_Rounds ?x_get ?x_tak ?m_Sieve_many ?m_Sieve_knots ?m_Sieve_top ?m_Web_good_tie ?m_Web_size ?m_Web_ties ?m_Web_at ?m_Rings_look ?m_Rings_left ?m_Rings_shut_all ?m_Rings_opened ?m_Rings_stepped ?m_Rings_fits ?m_Rings_begin ?m_Rings_took ?m_Rings_shut ?m_Rings_good ?m_Rounds_look ?m_Rounds_left ?m_Rounds_shut_all ?m_Rounds_opened ?m_Rounds_stepped ?m_Rounds_fits ?m_Rounds_begin ?m_Rounds_took ?m_Rounds_good ?m_Rounds_shut ?i0 ?l0 ?c0 ?k0 ?i1 ?l1 ?c1 ?k1 ?i2 ?l2 ?c2 ?k2 ?i3 ?l3 ?c3 ?k3 ?a4 ?l4 ?c4 ?k4 ?a5 ?l5 ?c5 ?k5 ?a6 ?l6 ?c6 ?k6 ?a7 ?l7 ?c7 ?k7 ?a8 ?l8 ?c8 ?k8 ?a9 ?l9 ?c9 ?k9 ?a10 ?l10 ?c10 ?k10 ?a11 ?l11 ?c11 ?k11 ?a12 ?l12 ?c12 ?k12 ?a13 ?l13 ?c13 ?k13 ?a14 ?l14 ?c14 ?k14 ?a15 ?l15 ?c15 ?k15 ?i16 ?l16 ?c16 ?k16 ?i17 ?l17 ?c17 ?k17 ?i18 ?l18 ?c18 ?k18 ?i19 ?l19 ?c19 ?k19 ?i20 ?l20 ?c20 ?k20 ?i21 ?l21 ?c21 ?k21 ?a22 ?l22 ?c22 ?k22 ?a23 ?l23 ?c23 ?k23 ?a24 ?l24 ?c24 ?k24 ?a25 ?l25 ?c25 ?k25 ?a26 ?l26 ?c26 ?k26 ?i27 ?l27 ?c27 ?k27 ?i28 ?l28 ?c28 ?k28 ?i29 ?l29 ?c29 ?k29 ?i30 ?l30 ?c30 ?k30 ?i31 ?l31 ?c31 ?k31 ?i32 ?l32 ?c32 ?k32 ?i33 ?l33 ?c33 ?k33 ?i34 ?l34 ?c34 ?k34 ?i35 ?l35 ?c35 ?k35 ?i36 ?l36 ?c36 ?k36 ?a37 ?l37 ?c37 ?k37 ?a38 ?l38 ?c38 ?k38 ?a39 ?l39 ?c39 ?k39 ?a40 ?l40 ?c40 ?k40 ?a41 ?l41 ?c41 ?k41 ?a42 ?l42 ?c42 ?k42 ?a43 ?l43 ?c43 ?k43 ?a44 ?l44 ?c44 ?k44 ?a45 ?l45 ?c45 ?k45 ?a46 ?l46 ?c46 ?k46 ?a47 ?l47 ?c47 ?k47 ?z_len ?z_list ?z_tuple ?z_range ?z_enumerate ?z_sorted ?z_reversed ?z_min ?z_max ?z_int ?z_all ?z_isinstance ?y_MOST_TIES_making ?y_AMID ?y_MOST_POINTS ?y_MOST_TIES_webs
    (case aC_Sieve => k_is)
    (case aC_Rule => k_is)
    (case aC_Rings => k_is)
    (case aC_Rounds => k_is)
    (case aC_Web => k_is)
    (case pg_Sieve => k_is)
    (case hd_Sieve => k_is)
    (case po_Sieve => k_is)
    (case sa_Sieve => k_is)
    (case mk_Sieve => k_is)
    (case kc_Sieve => k_is)
    (case pg_Rings => k_is)
    (case hd_Rings => k_is)
    (case po_Rings => k_is)
    (case sa_Rings => k_is)
    (case mk_Rings => k_is)
    (case kc_Rings => k_is)
    (case pg_Rounds => k_is)
    (case hd_Rounds => k_is)
    (case po_Rounds => k_is)
    (case sa_Rounds => k_is)
    (case mk_Rounds => k_is)
    (case kc_Rounds => k_is)
    (case pg_Web => k_is)
    (case hd_Web => k_is)
    (case po_Web => k_is)
    (case sa_Web => k_is)
    (case mk_Web => k_is)
    (case kc_Web => k_is)
    (case in_Sieve => k_is)
    (case n_Sieve_wide => k_is)
    (case n_Sieve_rows => k_is)
    (case n_Sieve_start => k_is)
    (case in_Web => k_is)
    (case n_Web_point_count => k_is)
    (case n_Web_rows => k_is)
    (case in_Rings => k_is)
    (case is_Rings => k_is)
    (case ca_Rings => k_is)
    (case cm_Rings => k_is)
    (case in_Rounds => k_is)
    (case is_Rounds => k_is)
    (case ca_Rounds => k_is)
    (case cm_Rounds => k_is)
    (case x_get => k_is)
    (case x_tak => k_is)
    (case m_Sieve_many => k_is)
    (case m_Sieve_knots => k_is)
    (case m_Sieve_top => k_is)
    (case m_Web_good_tie => k_is)
    (case m_Web_size => k_is)
    (case m_Web_ties => k_is)
    (case m_Web_at => k_is)
    (case m_Rings_look => k_is)
    (case m_Rings_left => k_is)
    (case m_Rings_shut_all => k_is)
    (case m_Rings_opened => k_is)
    (case m_Rings_stepped => k_is)
    (case m_Rings_fits => k_is)
    (case m_Rings_begin => k_is)
    (case m_Rings_took => k_is)
    (case m_Rings_shut => k_is)
    (case m_Rings_good => k_is)
    (case m_Rounds_look => k_is)
    (case m_Rounds_left => k_is)
    (case m_Rounds_shut_all => k_is)
    (case m_Rounds_opened => k_is)
    (case m_Rounds_stepped => k_is)
    (case m_Rounds_fits => k_is)
    (case m_Rounds_begin => k_is)
    (case m_Rounds_took => k_is)
    (case m_Rounds_good => k_is)
    (case m_Rounds_shut => k_is)
    (case i0 => k_is)
    (case l0 => k_is)
    (case c0 => k_is)
    (case k0 => k_is)
    (case i1 => k_is)
    (case l1 => k_is)
    (case c1 => k_is)
    (case k1 => k_is)
    (case i2 => k_is)
    (case l2 => k_is)
    (case c2 => k_is)
    (case k2 => k_is)
    (case i3 => k_is)
    (case l3 => k_is)
    (case c3 => k_is)
    (case k3 => k_is)
    (case a4 => k_is)
    (case l4 => k_is)
    (case c4 => k_is)
    (case k4 => k_is)
    (case a5 => k_is)
    (case l5 => k_is)
    (case c5 => k_is)
    (case k5 => k_is)
    (case a6 => k_is)
    (case l6 => k_is)
    (case c6 => k_is)
    (case k6 => k_is)
    (case a7 => k_is)
    (case l7 => k_is)
    (case c7 => k_is)
    (case k7 => k_is)
    (case a8 => k_is)
    (case l8 => k_is)
    (case c8 => k_is)
    (case k8 => k_is)
    (case a9 => k_is)
    (case l9 => k_is)
    (case c9 => k_is)
    (case k9 => k_is)
    (case a10 => k_is)
    (case l10 => k_is)
    (case c10 => k_is)
    (case k10 => k_is)
    (case a11 => k_is)
    (case l11 => k_is)
    (case c11 => k_is)
    (case k11 => k_is)
    (case a12 => k_is)
    (case l12 => k_is)
    (case c12 => k_is)
    (case k12 => k_is)
    (case a13 => k_is)
    (case l13 => k_is)
    (case c13 => k_is)
    (case k13 => k_is)
    (case a14 => k_is)
    (case l14 => k_is)
    (case c14 => k_is)
    (case k14 => k_is)
    (case a15 => k_is)
    (case l15 => k_is)
    (case c15 => k_is)
    (case k15 => k_is)
    (case i16 => k_is)
    (case l16 => k_is)
    (case c16 => k_is)
    (case k16 => k_is)
    (case i17 => k_is)
    (case l17 => k_is)
    (case c17 => k_is)
    (case k17 => k_is)
    (case i18 => k_is)
    (case l18 => k_is)
    (case c18 => k_is)
    (case k18 => k_is)
    (case i19 => k_is)
    (case l19 => k_is)
    (case c19 => k_is)
    (case k19 => k_is)
    (case i20 => k_is)
    (case l20 => k_is)
    (case c20 => k_is)
    (case k20 => k_is)
    (case i21 => k_is)
    (case l21 => k_is)
    (case c21 => k_is)
    (case k21 => k_is)
    (case a22 => k_is)
    (case l22 => k_is)
    (case c22 => k_is)
    (case k22 => k_is)
    (case a23 => k_is)
    (case l23 => k_is)
    (case c23 => k_is)
    (case k23 => k_is)
    (case a24 => k_is)
    (case l24 => k_is)
    (case c24 => k_is)
    (case k24 => k_is)
    (case a25 => k_is)
    (case l25 => k_is)
    (case c25 => k_is)
    (case k25 => k_is)
    (case a26 => k_is)
    (case l26 => k_is)
    (case c26 => k_is)
    (case k26 => k_is)
    (case i27 => k_is)
    (case l27 => k_is)
    (case c27 => k_is)
    (case k27 => k_is)
    (case i28 => k_is)
    (case l28 => k_is)
    (case c28 => k_is)
    (case k28 => k_is)
    (case i29 => k_is)
    (case l29 => k_is)
    (case c29 => k_is)
    (case k29 => k_is)
    (case i30 => k_is)
    (case l30 => k_is)
    (case c30 => k_is)
    (case k30 => k_is)
    (case i31 => k_is)
    (case l31 => k_is)
    (case c31 => k_is)
    (case k31 => k_is)
    (case i32 => k_is)
    (case l32 => k_is)
    (case c32 => k_is)
    (case k32 => k_is)
    (case i33 => k_is)
    (case l33 => k_is)
    (case c33 => k_is)
    (case k33 => k_is)
    (case i34 => k_is)
    (case l34 => k_is)
    (case c34 => k_is)
    (case k34 => k_is)
    (case i35 => k_is)
    (case l35 => k_is)
    (case c35 => k_is)
    (case k35 => k_is)
    (case i36 => k_is)
    (case l36 => k_is)
    (case c36 => k_is)
    (case k36 => k_is)
    (case a37 => k_is)
    (case l37 => k_is)
    (case c37 => k_is)
    (case k37 => k_is)
    (case a38 => k_is)
    (case l38 => k_is)
    (case c38 => k_is)
    (case k38 => k_is)
    (case a39 => k_is)
    (case l39 => k_is)
    (case c39 => k_is)
    (case k39 => k_is)
    (case a40 => k_is)
    (case l40 => k_is)
    (case c40 => k_is)
    (case k40 => k_is)
    (case a41 => k_is)
    (case l41 => k_is)
    (case c41 => k_is)
    (case k41 => k_is)
    (case a42 => k_is)
    (case l42 => k_is)
    (case c42 => k_is)
    (case k42 => k_is)
    (case a43 => k_is)
    (case l43 => k_is)
    (case c43 => k_is)
    (case k43 => k_is)
    (case a44 => k_is)
    (case l44 => k_is)
    (case c44 => k_is)
    (case k44 => k_is)
    (case a45 => k_is)
    (case l45 => k_is)
    (case c45 => k_is)
    (case k45 => k_is)
    (case a46 => k_is)
    (case l46 => k_is)
    (case c46 => k_is)
    (case k46 => k_is)
    (case a47 => k_is)
    (case l47 => k_is)
    (case c47 => k_is)
    (case k47 => k_is)
    (case z_len => k_is)
    (case z_list => k_is)
    (case z_tuple => k_is)
    (case z_range => k_is)
    (case z_enumerate => k_is)
    (case z_sorted => k_is)
    (case z_reversed => k_is)
    (case z_min => k_is)
    (case z_max => k_is)
    (case z_int => k_is)
    (case z_all => k_is)
    (case z_isinstance => k_is)
    (case y_MOST_TIES_making => k_is)
    (case y_AMID => k_is)
    (case y_MOST_POINTS => k_is)
    (case y_MOST_TIES_webs => k_is)
