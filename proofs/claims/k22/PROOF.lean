import PyProof.Rows.All
import Wide.All
import OpenK.AllK
import Wide.FinOn
import HandS.ForMost
import HandS.AnyAll
import HandS.Lambda
import HandS.Nested
import HandS.GenBody
import HandS.Deep
import HandS.TupAny
import KE.GoesEnum
import HandS.Dict
import HandS.Words
import HandS.SetKeys
import PyProof.DictMoreH
import HandS.WordsExc
import HandS.DictTup
import HandS.Iter
import HandS.Rev
import HandS.RevTup
import HandS.More
import HandS.ExcOwn
import HandS.WordsDict
import HandS.TupLen
import KE.KDictPairs
import KE.KDictKeyed
import HandS.WordsList
import HandS.TryMany
import HandS.TupLe
import KE.KStateDown
import HandS.Ends
import HandS.Head0
import HandS.Head1
import HandS.Head2
import HandS.HeadEnd
import HandS.HeadHook1
import HandS.HeadHook2
import HandS.HeadHook3
import HandS.HeadHook4
import HandS.HeadWalk
import HandS.EndTab
import PySem.Challenge.RW_pairmart_k22_several_each_with_bounds
section
/-! K22Sum: finite sums of whole numbers; flows; the worth of a cut. Plain Lean, no imports. -/
set_option autoImplicit false
namespace Pm
section sums
variable {α β : Type}
def sm : List α → (α → Int) → Int
  | [], _ => 0
  | a :: r, f => f a + sm r f
theorem sm_nil (f : α → Int) : sm [] f = 0 := rfl
theorem sm_cons (a : α) (l : List α) (f : α → Int) : sm (a :: l) f = f a + sm l f := rfl
theorem sm_append (l r : List α) (f : α → Int) : sm (l ++ r) f = sm l f + sm r f := by
  induction l with
  | nil => simp [sm]
  | cons a l ih => simp only [List.cons_append, sm, ih]; omega
theorem sm_congr {l : List α} {f g : α → Int} (h : ∀ a ∈ l, f a = g a) : sm l f = sm l g := by
  induction l with
  | nil => rfl
  | cons a l ih =>
    simp only [sm]
    rw [h a List.mem_cons_self, ih fun b hb => h b (List.mem_cons_of_mem _ hb)]
theorem sm_add (l : List α) (f g : α → Int) : sm l (fun a => f a + g a) = sm l f + sm l g := by
  induction l with
  | nil => rfl
  | cons a l ih => simp only [sm, ih]; omega
theorem sm_sub (l : List α) (f g : α → Int) : sm l (fun a => f a - g a) = sm l f - sm l g := by
  induction l with
  | nil => rfl
  | cons a l ih => simp only [sm, ih]; omega
theorem sm_neg (l : List α) (f : α → Int) : sm l (fun a => - f a) = - sm l f := by
  induction l with
  | nil => rfl
  | cons a l ih => simp only [sm, ih]; omega
theorem sm_mul (l : List α) (k : Int) (f : α → Int) : sm l (fun a => k * f a) = k * sm l f := by
  induction l with
  | nil => simp [sm]
  | cons a l ih => simp only [sm, ih, Int.mul_add]
theorem sm_zero {l : List α} {f : α → Int} (h : ∀ a ∈ l, f a = 0) : sm l f = 0 := by
  induction l with
  | nil => rfl
  | cons a l ih =>
    simp only [sm]
    rw [h a List.mem_cons_self, ih fun b hb => h b (List.mem_cons_of_mem _ hb)]
    rfl
theorem sm_le {l : List α} {f g : α → Int} (h : ∀ a ∈ l, f a ≤ g a) : sm l f ≤ sm l g := by
  induction l with
  | nil => exact Int.le_refl _
  | cons a l ih =>
    simp only [sm]
    have h1 := h a List.mem_cons_self
    have h2 := ih fun b hb => h b (List.mem_cons_of_mem _ hb)
    omega
theorem sm_nonneg {l : List α} {f : α → Int} (h : ∀ a ∈ l, 0 ≤ f a) : 0 ≤ sm l f := by
  have := sm_le (f := fun _ => (0 : Int)) h
  rwa [sm_zero fun _ _ => rfl] at this
theorem sm_mem_le {l : List α} {f : α → Int} (h : ∀ a ∈ l, 0 ≤ f a) {a : α} (ha : a ∈ l) : f a ≤ sm l f := by
  induction l with
  | nil => cases ha
  | cons b l ih =>
    simp only [sm]
    have h1 := h b List.mem_cons_self
    have h2 := sm_nonneg fun c hc => h c (List.mem_cons_of_mem _ hc)
    rcases List.mem_cons.mp ha with e | ha
    · rw [e]; omega
    · have := ih (fun c hc => h c (List.mem_cons_of_mem _ hc)) ha
      omega
theorem sm_swap (l : List α) (r : List β) (f : α → β → Int) : sm l (fun a => sm r (f a)) = sm r (fun b => sm l (fun a => f a b)) := by
  induction l with
  | nil => exact (sm_zero fun _ _ => rfl).symm
  | cons a l ih => simp only [sm, ih, sm_add]
theorem sm_map (l : List β) (k : β → α) (f : α → Int) : sm (l.map k) f = sm l (fun b => f (k b)) := by
  induction l with
  | nil => rfl
  | cons a l ih => simp only [List.map_cons, sm, ih]
theorem sm_flatMap (l : List β) (k : β → List α) (f : α → Int) : sm (l.flatMap k) f = sm l (fun b => sm (k b) f) := by
  induction l with
  | nil => rfl
  | cons a l ih => simp only [List.flatMap_cons, sm_append, sm, ih]
theorem sm_filter (l : List α) (p : α → Bool) (f : α → Int) : sm (l.filter p) f = sm l (fun a => if p a = true then f a else 0) := by
  induction l with
  | nil => rfl
  | cons a l ih =>
    by_cases h : p a = true
    · rw [List.filter_cons_of_pos h]; simp only [sm, ih, if_pos h]
    · rw [List.filter_cons_of_neg h]; simp only [sm, ih, if_neg h]; omega
theorem sm_one (l : List α) : sm l (fun _ => 1) = (l.length : Int) := by
  induction l with
  | nil => rfl
  | cons a l ih => simp only [sm, ih, List.length_cons]; omega
theorem sm_count (l : List α) (p : α → Bool) : sm l (fun a => if p a = true then 1 else 0) = ((l.filter p).length : Int) := by
  rw [← sm_filter, sm_one]
theorem sm_ite_split (l : List α) (p : α → Bool) (f : α → Int) : sm l f = sm l (fun a => if p a = true then f a else 0) + sm l (fun a => if p a = true then 0 else f a) := by
  rw [← sm_add]
  refine sm_congr fun a _ => ?_
  by_cases h : p a = true
  · simp only [if_pos h]; omega
  · simp only [if_neg h]; omega
theorem sm_ite_const (q : Prop) [Decidable q] (l : List α) (f : α → Int) : sm l (fun a => if q then f a else 0) = if q then sm l f else 0 := by
  by_cases h : q
  · simp only [if_pos h]
  · simp only [if_neg h]; exact sm_zero fun _ _ => rfl
variable [DecidableEq α]
theorem sm_delta {l : List α} (nd : l.Nodup) {x : α} (hx : x ∈ l) (f : α → Int) : sm l (fun y => if y = x then f y else 0) = f x := by
  induction l with
  | nil => cases hx
  | cons a l ih =>
    obtain ⟨h1, h2⟩ := List.nodup_cons.mp nd
    simp only [sm]
    rcases List.mem_cons.mp hx with e | hx
    · subst e
      rw [if_pos rfl, sm_zero fun b hb => if_neg fun e => h1 (by rw [← e]; exact hb)]
      omega
    · rw [if_neg (fun e => h1 (by rw [e]; exact hx)), ih h2 hx]
      omega
theorem sm_delta_none {l : List α} {x : α} (hx : x ∉ l) (f : α → Int) : sm l (fun y => if y = x then f y else 0) = 0 :=
  sm_zero fun b hb => if_neg fun e => hx (by rw [← e]; exact hb)
/-- a sum over V of what is nought outside L is the sum over L -/
theorem sm_support {V L : List α} (nV : V.Nodup) (nL : L.Nodup) (sub : ∀ x ∈ L, x ∈ V) {f : α → Int} (out : ∀ x ∈ V, x ∉ L → f x = 0) : sm V f = sm L f := by
  have e1 : sm L f = sm L (fun x => sm V (fun y => if y = x then f y else 0)) := sm_congr fun x hx => (sm_delta nV (sub x hx) f).symm
  rw [e1, sm_swap]
  refine sm_congr fun y hy => ?_
  by_cases h : y ∈ L
  · have : sm L (fun x => if y = x then f y else 0) = sm L (fun x => if x = y then f x else 0) := sm_congr fun x _ => by
      by_cases e : x = y
      · subst e; rfl
      · rw [if_neg (fun z => e z.symm), if_neg e]
    rw [this, sm_delta nL h]
  · rw [sm_zero fun x hx => if_neg fun e => h (by rw [e]; exact hx)]
    exact out y hy h
end sums

/-! ### flows -/
section flow
variable {V : List Int} {s t : Int} {g c : Int → Int → Int}
/-- what leaves v in all -/
def rowsum (V : List Int) (g : Int → Int → Int) (v : Int) : Int := sm V (fun y => g v y)
theorem cut_value (nV : V.Nodup) (hs : s ∈ V) (anti : ∀ x y, g x y = - g y x) (cons : ∀ v ∈ V, v ≠ s → v ≠ t → rowsum V g v = 0)
    (S : Int → Bool) (hSs : S s = true) (hSt : S t = false) (sat : ∀ x ∈ V, ∀ y ∈ V, S x = true → S y = false → g x y = c x y) :
    rowsum V g s = sm V (fun x => sm V (fun y => if (S x && !S y) = true then c x y else 0)) := by
  have e1 : rowsum V g s = sm V (fun x => if S x = true then rowsum V g x else 0) := by
    have : sm V (fun x => if S x = true then rowsum V g x else 0) = sm V (fun x => if x = s then rowsum V g x else 0) := sm_congr fun x hx => by
      by_cases e : x = s
      · subst e; rw [if_pos hSs, if_pos rfl]
      · rw [if_neg e]
        by_cases h : S x = true
        · rw [if_pos h]
          refine cons x hx e fun z => ?_
          rw [z, hSt] at h; cases h
        · rw [if_neg h]
    rw [this, sm_delta nV hs]
  have A0 : sm V (fun x => sm V (fun y => if (S x && S y) = true then g x y else 0)) = 0 := by
    have h : sm V (fun x => sm V (fun y => if (S x && S y) = true then g x y else 0)) = - sm V (fun x => sm V (fun y => if (S x && S y) = true then g x y else 0)) := by
      conv => lhs; rw [sm_swap]
      rw [← sm_neg]
      refine sm_congr fun x _ => ?_
      rw [← sm_neg]
      refine sm_congr fun y _ => ?_
      rw [Bool.and_comm (S y) (S x)]
      by_cases h : (S x && S y) = true
      · rw [if_pos h, if_pos h]; exact anti y x
      · rw [if_neg h, if_neg h]; rfl
    omega
  rw [e1]
  have e2 : sm V (fun x => if S x = true then rowsum V g x else 0) = sm V (fun x => sm V (fun y => if (S x && S y) = true then g x y else 0) + sm V (fun y => if (S x && !S y) = true then c x y else 0)) := sm_congr fun x hx => by
    rw [← sm_add]
    by_cases h : S x = true
    · rw [if_pos h]
      refine sm_congr fun y hy => ?_
      cases h2 : S y
      · have := sat x hx y hy h h2
        simp only [h, Bool.true_and, Bool.not_false, if_true]
        simp [this]
      · simp only [h, Bool.true_and, Bool.not_true]
        simp
    · rw [if_neg h]
      refine (sm_zero fun y _ => ?_).symm
      simp [h]
  rw [e2, sm_add, A0, Int.zero_add]

/-- a laid pipe: from, to, how much it lets through -/
abbrev Op := Int × Int × Int
def cap (ops : List Op) (x y : Int) : Int := sm ops (fun o => if o.1 = x ∧ o.2.1 = y then o.2.2 else 0)
def touch (ops : List Op) (x y : Int) : Bool := ops.any fun o => (decide (o.1 = x) && decide (o.2.1 = y)) || (decide (o.1 = y) && decide (o.2.1 = x))
def crossing (ops : List Op) (S : Int → Bool) : Int := sm ops (fun o => if (S o.1 && !S o.2.1) = true then o.2.2 else 0)
theorem cap_cross {ops : List Op} (nV : V.Nodup) (ends : ∀ o ∈ ops, o.1 ∈ V ∧ o.2.1 ∈ V) (S : Int → Bool) :
    sm V (fun x => sm V (fun y => if (S x && !S y) = true then cap ops x y else 0)) = crossing ops S := by
  have e1 : sm V (fun x => sm V (fun y => if (S x && !S y) = true then cap ops x y else 0)) = sm V (fun x => sm ops (fun o => sm V (fun y => if (S x && !S y) = true then (if o.1 = x ∧ o.2.1 = y then o.2.2 else 0) else 0))) := sm_congr fun x _ => by
    rw [sm_swap ops V]
    refine sm_congr fun y _ => ?_
    rw [sm_ite_const]
    rfl
  rw [e1, sm_swap]
  refine sm_congr fun o ho => ?_
  have e2 : ∀ x, sm V (fun y => if (S x && !S y) = true then (if o.1 = x ∧ o.2.1 = y then o.2.2 else 0) else 0) = if x = o.1 then (if (S x && !S o.2.1) = true then o.2.2 else 0) else 0 := fun x => by
    have : sm V (fun y => if (S x && !S y) = true then (if o.1 = x ∧ o.2.1 = y then o.2.2 else 0) else 0) = sm V (fun y => if y = o.2.1 then (if x = o.1 then (if (S x && !S y) = true then o.2.2 else 0) else 0) else 0) := sm_congr fun y _ => by
      by_cases h1 : y = o.2.1
      · rw [if_pos h1]
        by_cases h2 : x = o.1
        · rw [if_pos h2]
          by_cases h3 : (S x && !S y) = true
          · rw [if_pos h3, if_pos h3, if_pos ⟨h2.symm, h1.symm⟩]
          · rw [if_neg h3, if_neg h3]
        · rw [if_neg h2]
          by_cases h3 : (S x && !S y) = true
          · rw [if_pos h3, if_neg fun z => h2 z.1.symm]
          · rw [if_neg h3]
      · rw [if_neg h1]
        by_cases h3 : (S x && !S y) = true
        · rw [if_pos h3, if_neg fun z => h1 z.2.symm]
        · rw [if_neg h3]
    rw [this, sm_delta nV (ends o ho).2]
  rw [sm_congr fun x _ => e2 x, sm_delta nV (ends o ho).1]
end flow

/-! ### augmenting along a way -/
section aug
/-- how often the step (x, y) is among steps -/
def cnt (st : List (Int × Int)) (x y : Int) : Int := sm st (fun p => if p.1 = x ∧ p.2 = y then 1 else 0)
theorem cnt_nonneg (st : List (Int × Int)) (x y : Int) : 0 ≤ cnt st x y := sm_nonneg fun p _ => by
  by_cases h : p.1 = x ∧ p.2 = y
  · rw [if_pos h]; decide
  · rw [if_neg h]; decide
theorem cnt_none {st : List (Int × Int)} {x y : Int} (h : (x, y) ∉ st) : cnt st x y = 0 := sm_zero fun p hp => if_neg fun e => h (by
  obtain ⟨a, b⟩ := p
  obtain ⟨e1, e2⟩ := e
  simp only at e1 e2
  subst e1 e2
  exact hp)
theorem cnt_le_one : ∀ {st : List (Int × Int)}, (st.map (·.1)).Nodup → ∀ (x y : Int), cnt st x y ≤ 1
  | [], _, _, _ => by show (0 : Int) ≤ 1; decide
  | p :: st, nd, x, y => by
    rw [List.map_cons] at nd
    obtain ⟨h1, h2⟩ := List.nodup_cons.mp nd
    show (if p.1 = x ∧ p.2 = y then 1 else 0) + cnt st x y ≤ 1
    by_cases h : p.1 = x ∧ p.2 = y
    · rw [if_pos h, cnt_none fun z => h1 (List.mem_map.mpr ⟨(x, y), z, h.1.symm⟩)]
      decide
    · rw [if_neg h]
      have := cnt_le_one h2 x y
      omega
/-- going along the steps, much more along each, as much less back -/
def push (g : Int → Int → Int) (m : Int) (st : List (Int × Int)) : Int → Int → Int := fun x y => g x y + m * cnt st x y - m * cnt st y x
def step1 (g : Int → Int → Int) (m : Int) (p : Int × Int) : Int → Int → Int := fun x y =>
  (if x = p.2 ∧ y = p.1 then (if x = p.1 ∧ y = p.2 then g x y + m else g x y) - m else (if x = p.1 ∧ y = p.2 then g x y + m else g x y))
theorem push_nil (g : Int → Int → Int) (m : Int) : push g m [] = g := by
  funext x y
  show g x y + m * 0 - m * 0 = g x y
  omega
theorem push_snoc (g : Int → Int → Int) (m : Int) (st : List (Int × Int)) (p : Int × Int) : push g m (st ++ [p]) = step1 (push g m st) m p := by
  funext x y
  have e : ∀ a b, cnt (st ++ [p]) a b = cnt st a b + if p.1 = a ∧ p.2 = b then 1 else 0 := fun a b => by
    show sm (st ++ [p]) _ = _
    rw [sm_append]
    show _ + ((if p.1 = a ∧ p.2 = b then (1 : Int) else 0) + 0) = _
    rw [Int.add_zero]
    rfl
  unfold push step1
  dsimp only
  rw [e, e, Int.mul_add, Int.mul_add]
  by_cases h1 : x = p.1 ∧ y = p.2
  · have h1' : p.1 = x ∧ p.2 = y := ⟨h1.1.symm, h1.2.symm⟩
    rw [if_pos h1, if_pos h1']
    by_cases h2 : x = p.2 ∧ y = p.1
    · have h2' : p.1 = y ∧ p.2 = x := ⟨h2.2.symm, h2.1.symm⟩
      rw [if_pos h2, if_pos h2']; omega
    · have h2' : ¬ (p.1 = y ∧ p.2 = x) := fun z => h2 ⟨z.2.symm, z.1.symm⟩
      rw [if_neg h2, if_neg h2']; omega
  · have h1' : ¬ (p.1 = x ∧ p.2 = y) := fun z => h1 ⟨z.1.symm, z.2.symm⟩
    rw [if_neg h1, if_neg h1']
    by_cases h2 : x = p.2 ∧ y = p.1
    · have h2' : p.1 = y ∧ p.2 = x := ⟨h2.2.symm, h2.1.symm⟩
      rw [if_pos h2, if_pos h2']; omega
    · have h2' : ¬ (p.1 = y ∧ p.2 = x) := fun z => h2 ⟨z.2.symm, z.1.symm⟩
      rw [if_neg h2, if_neg h2']; omega
/-- the steps of a way -/
def steps (w : List Int) : List (Int × Int) := w.zip w.tail
theorem steps_two (a b : Int) (r : List Int) : steps (a :: b :: r) = (a, b) :: steps (b :: r) := rfl
theorem steps_firsts : ∀ (w : List Int), w.Nodup → ((steps w).map (·.1)).Nodup
  | [], _ => List.nodup_nil
  | [_], _ => List.nodup_nil
  | a :: b :: r, nd => by
    obtain ⟨h1, h2⟩ := List.nodup_cons.mp nd
    rw [steps_two, List.map_cons]
    refine List.nodup_cons.mpr ⟨fun hm => ?_, steps_firsts (b :: r) h2⟩
    obtain ⟨p, hp, e⟩ := List.mem_map.mp hm
    have := (List.of_mem_zip (show (p.1, p.2) ∈ (b :: r).zip (b :: r).tail from hp)).1
    simp only at e
    rw [e] at this
    exact h1 this
/-- telescoping: along a way what leaves v less what comes to it -/
theorem steps_row {V : List Int} (nV : V.Nodup) : ∀ (w : List Int) (a : Int), (∀ x ∈ a :: w, x ∈ V) → ∀ v,
    sm V (fun y => cnt (steps (a :: w)) v y) - sm V (fun y => cnt (steps (a :: w)) y v) = (if v = a then 1 else 0) - (if v = (a :: w).getLast (by simp) then 1 else 0)
  | [], a, _, v => by
    show sm V (fun _ => 0) - sm V (fun _ => 0) = _
    simp only [List.getLast_singleton]
    omega
  | b :: r, a, hv, v => by
    have ih := steps_row nV r b (fun x hx => hv x (List.mem_cons_of_mem _ hx)) v
    have e1 : ∀ x y, cnt (steps (a :: b :: r)) x y = (if a = x ∧ b = y then 1 else 0) + cnt (steps (b :: r)) x y := fun _ _ => rfl
    have s1 : sm V (fun y => cnt (steps (a :: b :: r)) v y) = (if v = a then 1 else 0) + sm V (fun y => cnt (steps (b :: r)) v y) := by
      rw [sm_congr fun y _ => e1 v y, sm_add]
      congr 1
      have : sm V (fun y => if a = v ∧ b = y then (1 : Int) else 0) = sm V (fun y => if y = b then (if v = a then 1 else 0) else 0) := sm_congr fun y _ => by
        by_cases h1 : y = b
        · rw [if_pos h1]
          by_cases h2 : v = a
          · rw [if_pos ⟨h2.symm, h1.symm⟩, if_pos h2]
          · rw [if_neg fun z => h2 z.1.symm, if_neg h2]
        · rw [if_neg fun z => h1 z.2.symm, if_neg h1]
      rw [this, sm_delta nV (hv b (List.mem_cons_of_mem _ List.mem_cons_self))]
    have s2 : sm V (fun y => cnt (steps (a :: b :: r)) y v) = (if v = b then 1 else 0) + sm V (fun y => cnt (steps (b :: r)) y v) := by
      rw [sm_congr fun y _ => e1 y v, sm_add]
      congr 1
      have : sm V (fun y => if a = y ∧ b = v then (1 : Int) else 0) = sm V (fun y => if y = a then (if v = b then 1 else 0) else 0) := sm_congr fun y _ => by
        by_cases h1 : y = a
        · rw [if_pos h1]
          by_cases h2 : v = b
          · rw [if_pos ⟨h1.symm, h2.symm⟩, if_pos h2]
          · rw [if_neg fun z => h2 z.2.symm, if_neg h2]
        · rw [if_neg fun z => h1 z.1.symm, if_neg h1]
      rw [this, sm_delta nV (hv a List.mem_cons_self)]
    rw [s1, s2]
    have e3 : (a :: b :: r).getLast (by simp) = (b :: r).getLast (by simp) := List.getLast_cons (by simp)
    rw [e3]
    omega
end aug

/-! ### the state of a flow -/
/-- g goes through the pipes ops between the places V, from s to t, whole in all -/
structure Flow (V : List Int) (ops : List Op) (s t : Int) (g : Int → Int → Int) (whole : Int) : Prop where
  anti : ∀ x y, g x y = - g y x
  fits : ∀ x y, g x y ≤ cap ops x y
  only : ∀ x y, touch ops x y = false → g x y = 0
  cons : ∀ v ∈ V, v ≠ s → v ≠ t → rowsum V g v = 0
  val : rowsum V g s = whole
theorem touch_symm (ops : List Op) (x y : Int) : touch ops x y = touch ops y x := by
  unfold touch
  congr 1
  funext o
  rw [Bool.or_comm]
theorem cap_untouched {ops : List Op} {x y : Int} (h : touch ops x y = false) : cap ops x y = 0 := by
  unfold cap
  refine sm_zero fun o ho => if_neg fun e => ?_
  have := (List.any_eq_false.mp h) o ho
  simp [e.1, e.2] at this
theorem cap_nonneg {ops : List Op} (h : ∀ o ∈ ops, 0 ≤ o.2.2) (x y : Int) : 0 ≤ cap ops x y := sm_nonneg fun o ho => by
  by_cases e : o.1 = x ∧ o.2.1 = y
  · rw [if_pos e]; exact h o ho
  · rw [if_neg e]; decide
theorem flow_zero {V : List Int} {ops : List Op} {s t : Int} (h : ∀ o ∈ ops, 0 ≤ o.2.2) : Flow V ops s t (fun _ _ => 0) 0 where
  anti := fun _ _ => rfl
  fits := fun x y => cap_nonneg h x y
  only := fun _ _ _ => rfl
  cons := fun _ _ _ _ => sm_zero fun _ _ => rfl
  val := sm_zero fun _ _ => rfl
/-- more may go from x to y -/
def more (ops : List Op) (g : Int → Int → Int) (x y : Int) : Prop := touch ops x y = true ∧ 0 < cap ops x y - g x y
instance (ops : List Op) (g : Int → Int → Int) (x y : Int) : Decidable (more ops g x y) := inferInstanceAs (Decidable (_ ∧ _))
/-- a way along which more may go -/
structure Way (V : List Int) (ops : List Op) (g : Int → Int → Int) (s t : Int) (w : List Int) : Prop where
  nd : w.Nodup
  inV : ∀ x ∈ w, x ∈ V
  first : w.head? = some s
  last : w.getLast? = some t
  goes : ∀ p ∈ steps w, more ops g p.1 p.2
theorem flow_push {V : List Int} {ops : List Op} {s t : Int} {g : Int → Int → Int} {whole m : Int} {w : List Int} (nV : V.Nodup) (F : Flow V ops s t g whole) (W : Way V ops g s t w) (hst : s ≠ t)
    (hm : 0 ≤ m) (hle : ∀ p ∈ steps w, m ≤ cap ops p.1 p.2 - g p.1 p.2) : Flow V ops s t (push g m (steps w)) (whole + m) := by
  obtain ⟨a, r, rfl⟩ : ∃ a r, w = a :: r := by
    cases w with
    | nil => have := W.first; cases this
    | cons a r => exact ⟨a, r, rfl⟩
  have ea : a = s := by have := W.first; simpa using this
  subst ea
  have el : (a :: r).getLast (by simp) = t := by
    have := W.last
    rw [List.getLast?_eq_some_getLast (by simp)] at this
    exact Option.some.inj this
  have row : ∀ v, rowsum V (push g m (steps (a :: r))) v = rowsum V g v + m * ((if v = a then 1 else 0) - (if v = t then 1 else 0)) := fun v => by
    have h := steps_row nV r a W.inV v
    rw [el] at h
    rw [← h, Int.mul_sub, ← sm_mul, ← sm_mul]
    show sm V (fun y => g v y + m * cnt (steps (a :: r)) v y - m * cnt (steps (a :: r)) y v) = sm V (fun y => g v y) + _
    rw [sm_sub, sm_add]
    show sm V (g v) + _ - _ = sm V (g v) + _
    omega
  refine ⟨fun x y => ?_, fun x y => ?_, fun x y h => ?_, fun v hv h1 h2 => ?_, ?_⟩
  · unfold push
    rw [F.anti x y]
    omega
  · unfold push
    have h1 := F.fits x y
    have h0 : 0 ≤ m * cnt (steps (a :: r)) y x := Int.mul_nonneg hm (cnt_nonneg _ _ _)
    by_cases h : (x, y) ∈ steps (a :: r)
    · have h2 := hle (x, y) h
      simp only at h2
      have h3 : m * cnt (steps (a :: r)) x y ≤ m * 1 := Int.mul_le_mul_of_nonneg_left (cnt_le_one (steps_firsts _ W.nd) x y) hm
      omega
    · rw [cnt_none h]
      omega
  · unfold push
    have n1 : (x, y) ∉ steps (a :: r) := fun z => by
      have := (W.goes _ z).1
      simp only at this
      rw [h] at this; cases this
    have n2 : (y, x) ∉ steps (a :: r) := fun z => by
      have := (W.goes _ z).1
      simp only at this
      rw [touch_symm, h] at this; cases this
    rw [cnt_none n1, cnt_none n2, F.only x y h]
    omega
  · rw [row, F.cons v hv h1 h2, if_neg h1, if_neg h2]
    omega
  · rw [row, F.val, if_pos rfl, if_neg hst]
    omega
/-- a set that more may not leave -/
def Closed (V : List Int) (ops : List Op) (g : Int → Int → Int) (S : Int → Bool) : Prop := ∀ x ∈ V, ∀ y ∈ V, S x = true → more ops g x y → S y = true
theorem flow_cut {V : List Int} {ops : List Op} {s t : Int} {g : Int → Int → Int} {whole : Int} (nV : V.Nodup) (hs : s ∈ V) (ends : ∀ o ∈ ops, o.1 ∈ V ∧ o.2.1 ∈ V) (F : Flow V ops s t g whole)
    (S : Int → Bool) (hSs : S s = true) (hSt : S t = false) (C : Closed V ops g S) : whole = crossing ops S := by
  rw [← F.val, ← cap_cross nV ends S]
  refine cut_value nV hs F.anti F.cons S hSs hSt fun x hx y hy h1 h2 => ?_
  have hn : ¬ more ops g x y := fun z => by
    have := C x hx y hy h1 z
    rw [h2] at this; cases this
  by_cases ht : touch ops x y = true
  · have h3 := F.fits x y
    have h4 : ¬ 0 < cap ops x y - g x y := fun z => hn ⟨ht, z⟩
    omega
  · have ht' : touch ops x y = false := by simpa using ht
    rw [F.only x y ht', cap_untouched ht']
/-- how much can go at most: what the start's pipes let by -/
theorem flow_most {V : List Int} {ops : List Op} {s t : Int} {g : Int → Int → Int} {whole : Int} (F : Flow V ops s t g whole) : whole ≤ sm V (fun y => cap ops s y) := by
  rw [← F.val]
  exact sm_le fun y _ => F.fits s y
end Pm
end
section
/-! K22Net: the pipes that askers, rooms and their bounds make; what a flow through them says of the pairs. -/
set_option autoImplicit false
set_option linter.all false
namespace Pm
structure Wt where
  lists : List (List Int)
  askers : List (Int × Int)
  rooms : List (Int × Int)
namespace Wt
variable (W : Wt)
def n : Nat := W.lists.length
def m : Nat := W.rooms.length
def row (a : Nat) : List Int := W.lists.getD a []
def alo (a : Nat) : Int := (W.askers.getD a (0, 0)).1
def ahi (a : Nat) : Int := (W.askers.getD a (0, 0)).2
def rlo (r : Nat) : Int := (W.rooms.getD r (0, 0)).1
def rhi (r : Nat) : Int := (W.rooms.getD r (0, 0)).2
/-- the bounds and lists are as they should be -/
structure Ok : Prop where
  len : W.askers.length = W.lists.length
  nd : ∀ a, (W.row a).Nodup
  inR : ∀ a, ∀ r ∈ W.row a, 0 ≤ r ∧ r < (W.m : Int)
  ab : ∀ a, a < W.n → 0 ≤ W.alo a ∧ W.alo a ≤ W.ahi a
  rb : ∀ r, r < W.m → 0 ≤ W.rlo r ∧ W.rlo r ≤ W.rhi r
end Wt
variable {W : Wt} {least : Bool}
def kS (W : Wt) : Int := (W.n : Int) + (W.m : Int)
def kE (W : Wt) : Int := (W.n : Int) + (W.m : Int) + 1
def extra (least : Bool) (low : Int) (l : List Op) : List Op := if least = true ∧ 0 < low then l else []
def askOps (W : Wt) (least : Bool) (a : Nat) : List Op :=
  (kS W, (a : Int), if least = true then W.ahi a - W.alo a else W.ahi a) :: (extra least (W.alo a) [(kE W + 1, (a : Int), W.alo a), (kS W, kE W + 2, W.alo a)] ++ (W.row a).map fun r => ((a : Int), (W.n : Int) + r, (1 : Int)))
def roomOps (W : Wt) (least : Bool) (r : Nat) : List Op :=
  ((W.n : Int) + (r : Int), kE W, if least = true then W.rhi r - W.rlo r else W.rhi r) :: extra least (W.rlo r) [((W.n : Int) + (r : Int), kE W + 2, W.rlo r), (kE W + 1, kE W, W.rlo r)]
/-- what must go -/
def mustA (W : Wt) (least : Bool) (k : Nat) : Int := sm (List.range k) (fun a => if least = true ∧ 0 < W.alo a then W.alo a else 0)
def mustR (W : Wt) (least : Bool) (k : Nat) : Int := sm (List.range k) (fun r => if least = true ∧ 0 < W.rlo r then W.rlo r else 0)
def must (W : Wt) (least : Bool) : Int := mustA W least W.n + mustR W least W.m
def links (W : Wt) : Int := sm (List.range W.n) (fun a => ((W.row a).length : Int))
def lastOps (W : Wt) (least : Bool) : List Op := if least = true then [(kE W, kS W, links W + must W least + 1)] else []
def askAll (W : Wt) (least : Bool) (k : Nat) : List Op := (List.range k).flatMap (askOps W least)
def roomAll (W : Wt) (least : Bool) (k : Nat) : List Op := (List.range k).flatMap (roomOps W least)
def opsOf (W : Wt) (least : Bool) : List Op := askAll W least W.n ++ roomAll W least W.m ++ lastOps W least
/-- the places -/
def places (k : Nat) : List Int := (List.range k).map fun i : Nat => (i : Int)
def VV (W : Wt) : List Int := places (W.n + W.m + 4)
theorem mem_places {k : Nat} {x : Int} : x ∈ places k ↔ 0 ≤ x ∧ x < (k : Int) := by
  unfold places
  rw [List.mem_map]
  constructor
  · rintro ⟨i, hi, rfl⟩
    have := List.mem_range.mp hi
    omega
  · rintro ⟨h1, h2⟩
    exact ⟨x.toNat, List.mem_range.mpr (by omega), by omega⟩
theorem nodup_map_inj {α β : Type} {f : α → β} : ∀ {l : List α}, (∀ x ∈ l, ∀ y ∈ l, f x = f y → x = y) → l.Nodup → (l.map f).Nodup
  | [], _, _ => List.nodup_nil
  | a :: l, h, nd => by
    obtain ⟨h1, h2⟩ := List.nodup_cons.mp nd
    rw [List.map_cons]
    refine List.nodup_cons.mpr ⟨fun hm => ?_, nodup_map_inj (fun x hx y hy => h x (List.mem_cons_of_mem _ hx) y (List.mem_cons_of_mem _ hy)) h2⟩
    obtain ⟨b, hb, e⟩ := List.mem_map.mp hm
    have := h b (List.mem_cons_of_mem _ hb) a List.mem_cons_self e
    rw [this] at hb
    exact h1 hb
theorem nodup_places (k : Nat) : (places k).Nodup := nodup_map_inj (fun x _ y _ e => by omega) List.nodup_range
theorem nV (W : Wt) : (VV W).Nodup := nodup_places _
theorem mem_V {x : Int} : x ∈ VV W ↔ 0 ≤ x ∧ x < (W.n : Int) + (W.m : Int) + 4 := by
  unfold VV
  rw [mem_places]
  omega
theorem sm_extra {low : Int} {l : List Op} (f : Op → Int) : sm (extra least low l) f = if least = true ∧ 0 < low then sm l f else 0 := by
  unfold extra
  by_cases h : least = true ∧ 0 < low
  · rw [if_pos h, if_pos h]
  · rw [if_neg h, if_neg h]; rfl
/-- a sum over all pipes -/
theorem sm_ask (f : Op → Int) (a : Nat) : sm (askOps W least a) f = f (kS W, (a : Int), if least = true then W.ahi a - W.alo a else W.ahi a)
    + (if least = true ∧ 0 < W.alo a then f (kE W + 1, (a : Int), W.alo a) + f (kS W, kE W + 2, W.alo a) else 0) + sm (W.row a) (fun r => f ((a : Int), (W.n : Int) + r, (1 : Int))) := by
  unfold askOps
  rw [sm_cons, sm_append, sm_extra, sm_map]
  have : sm [(kE W + 1, (a : Int), W.alo a), (kS W, kE W + 2, W.alo a)] f = f (kE W + 1, (a : Int), W.alo a) + f (kS W, kE W + 2, W.alo a) := by
    show f _ + (f _ + 0) = _
    omega
  rw [this]
  omega
theorem sm_room (f : Op → Int) (r : Nat) : sm (roomOps W least r) f = f ((W.n : Int) + (r : Int), kE W, if least = true then W.rhi r - W.rlo r else W.rhi r)
    + (if least = true ∧ 0 < W.rlo r then f ((W.n : Int) + (r : Int), kE W + 2, W.rlo r) + f (kE W + 1, kE W, W.rlo r) else 0) := by
  unfold roomOps
  rw [sm_cons, sm_extra]
  have : sm [((W.n : Int) + (r : Int), kE W + 2, W.rlo r), (kE W + 1, kE W, W.rlo r)] f = f ((W.n : Int) + (r : Int), kE W + 2, W.rlo r) + f (kE W + 1, kE W, W.rlo r) := by
    show f _ + (f _ + 0) = _
    omega
  rw [this]
theorem sm_ops (f : Op → Int) : sm (opsOf W least) f = sm (List.range W.n) (fun a => sm (askOps W least a) f) + sm (List.range W.m) (fun r => sm (roomOps W least r) f)
    + (if least = true then f (kE W, kS W, links W + must W least + 1) else 0) := by
  unfold opsOf askAll roomAll lastOps
  rw [sm_append, sm_append, sm_flatMap, sm_flatMap]
  by_cases h : least = true
  · rw [if_pos h, if_pos h]
    show _ + _ + (f _ + 0) = _
    omega
  · rw [if_neg h, if_neg h]
    rfl
/-- each pipe of the net, with a word that all such pipes have -/
theorem all_ops {p : Op → Prop} (h1 : ∀ a, a < W.n → p (kS W, (a : Int), if least = true then W.ahi a - W.alo a else W.ahi a)) (h2 : ∀ a, a < W.n → least = true → 0 < W.alo a → p (kE W + 1, (a : Int), W.alo a))
    (h3 : ∀ a, a < W.n → least = true → 0 < W.alo a → p (kS W, kE W + 2, W.alo a)) (h4 : ∀ a, a < W.n → ∀ r ∈ W.row a, p ((a : Int), (W.n : Int) + r, (1 : Int)))
    (h5 : ∀ r, r < W.m → p ((W.n : Int) + (r : Int), kE W, if least = true then W.rhi r - W.rlo r else W.rhi r)) (h6 : ∀ r, r < W.m → least = true → 0 < W.rlo r → p ((W.n : Int) + (r : Int), kE W + 2, W.rlo r))
    (h7 : ∀ r, r < W.m → least = true → 0 < W.rlo r → p (kE W + 1, kE W, W.rlo r)) (h8 : least = true → p (kE W, kS W, links W + must W least + 1)) : ∀ o ∈ opsOf W least, p o := by
  intro o ho
  rcases List.mem_append.mp ho with ho | ho
  · rcases List.mem_append.mp ho with ho | ho
    · obtain ⟨a, ha, ho⟩ := List.mem_flatMap.mp ho
      have ha := List.mem_range.mp ha
      rcases List.mem_cons.mp ho with e | ho
      · rw [e]; exact h1 a ha
      rcases List.mem_append.mp ho with ho | ho
      · unfold extra at ho
        by_cases hl : least = true ∧ 0 < W.alo a
        · rw [if_pos hl] at ho
          rcases List.mem_cons.mp ho with e | ho
          · rw [e]; exact h2 a ha hl.1 hl.2
          · rw [List.mem_singleton.mp ho]; exact h3 a ha hl.1 hl.2
        · rw [if_neg hl] at ho; cases ho
      · obtain ⟨r, hr, e⟩ := List.mem_map.mp ho
        rw [← e]; exact h4 a ha r hr
    · obtain ⟨r, hr, ho⟩ := List.mem_flatMap.mp ho
      have hr := List.mem_range.mp hr
      rcases List.mem_cons.mp ho with e | ho
      · rw [e]; exact h5 r hr
      · unfold extra at ho
        by_cases hl : least = true ∧ 0 < W.rlo r
        · rw [if_pos hl] at ho
          rcases List.mem_cons.mp ho with e | ho
          · rw [e]; exact h6 r hr hl.1 hl.2
          · rw [List.mem_singleton.mp ho]; exact h7 r hr hl.1 hl.2
        · rw [if_neg hl] at ho; cases ho
  · unfold lastOps at ho
    by_cases hl : least = true
    · rw [if_pos hl] at ho
      rw [List.mem_singleton.mp ho]; exact h8 hl
    · rw [if_neg hl] at ho; cases ho
theorem mustA_nonneg (k : Nat) : 0 ≤ mustA W least k := sm_nonneg fun a _ => by
  by_cases h : least = true ∧ 0 < W.alo a
  · rw [if_pos h]; omega
  · rw [if_neg h]; decide
theorem mustR_nonneg (k : Nat) : 0 ≤ mustR W least k := sm_nonneg fun r _ => by
  by_cases h : least = true ∧ 0 < W.rlo r
  · rw [if_pos h]; omega
  · rw [if_neg h]; decide
theorem links_nonneg : 0 ≤ links W := sm_nonneg fun _ _ => by omega
theorem must_nonneg : 0 ≤ must W least := Int.add_nonneg (mustA_nonneg _) (mustR_nonneg _)
theorem ops_pos (ok : W.Ok) : ∀ o ∈ opsOf W least, 0 ≤ o.2.2 := by
  refine all_ops (fun a ha => ?_) (fun a ha _ h => ?_) (fun a ha _ h => ?_) (fun a ha r hr => ?_) (fun r hr => ?_) (fun r hr _ h => ?_) (fun r hr _ h => ?_) fun _ => ?_
  · have := ok.ab a ha
    show 0 ≤ (if least = true then W.ahi a - W.alo a else W.ahi a)
    split <;> omega
  · show 0 ≤ W.alo a; omega
  · show 0 ≤ W.alo a; omega
  · show (0 : Int) ≤ 1; decide
  · have := ok.rb r hr
    show 0 ≤ (if least = true then W.rhi r - W.rlo r else W.rhi r)
    split <;> omega
  · show 0 ≤ W.rlo r; omega
  · show 0 ≤ W.rlo r; omega
  · have h1 := links_nonneg (W := W)
    have h2 := must_nonneg (W := W) (least := least)
    show 0 ≤ links W + must W least + 1
    omega
theorem ops_ends (ok : W.Ok) : ∀ o ∈ opsOf W least, o.1 ∈ VV W ∧ o.2.1 ∈ VV W := by
  refine all_ops (fun a ha => ?_) (fun a ha _ h => ?_) (fun a ha _ h => ?_) (fun a ha r hr => ?_) (fun r hr => ?_) (fun r hr _ h => ?_) (fun r hr _ h => ?_) fun _ => ?_
  all_goals simp only [mem_V, kS, kE]
  case refine_4 =>
    have := ok.inR a r hr
    omega
  all_goals omega
/-- the pipes from a place to another, one by one -/
theorem cap_form (x y : Int) : cap (opsOf W least) x y = sm (List.range W.n) (fun a =>
      (if kS W = x ∧ (a : Int) = y then (if least = true then W.ahi a - W.alo a else W.ahi a) else 0)
      + (if least = true ∧ 0 < W.alo a then (if kE W + 1 = x ∧ (a : Int) = y then W.alo a else 0) + (if kS W = x ∧ kE W + 2 = y then W.alo a else 0) else 0)
      + sm (W.row a) (fun r => if (a : Int) = x ∧ (W.n : Int) + r = y then 1 else 0))
    + sm (List.range W.m) (fun r => (if (W.n : Int) + (r : Int) = x ∧ kE W = y then (if least = true then W.rhi r - W.rlo r else W.rhi r) else 0)
      + (if least = true ∧ 0 < W.rlo r then (if (W.n : Int) + (r : Int) = x ∧ kE W + 2 = y then W.rlo r else 0) + (if kE W + 1 = x ∧ kE W = y then W.rlo r else 0) else 0))
    + (if least = true then (if kE W = x ∧ kS W = y then links W + must W least + 1 else 0) else 0) := by
  unfold cap
  rw [sm_ops]
  congr 2
  · exact sm_congr fun a _ => sm_ask _ a
  · exact sm_congr fun r _ => sm_room _ r
/-- the pipe of asker a -/
def lowA (W : Wt) (least : Bool) (a : Nat) : Int := if least = true then W.alo a else 0
def lowR (W : Wt) (least : Bool) (r : Nat) : Int := if least = true then W.rlo r else 0
section capsA
theorem rows_none {x y : Int} (h : ∀ b, b < W.n → ∀ r ∈ W.row b, ¬ ((b : Int) = x ∧ (W.n : Int) + r = y)) (b : Nat) (hb : b < W.n) : sm (W.row b) (fun r => if (b : Int) = x ∧ (W.n : Int) + r = y then (1 : Int) else 0) = 0 :=
  sm_zero fun r hr => if_neg (h b hb r hr)
variable (ok : W.Ok) {a : Nat} (ha : a < W.n)
include ok ha
theorem cap_start_a : cap (opsOf W least) (kS W) (a : Int) = W.ahi a - lowA W least a := by
  rw [cap_form]
  have hA : sm (List.range W.n) (fun b => (if kS W = kS W ∧ (b : Int) = (a : Int) then (if least = true then W.ahi b - W.alo b else W.ahi b) else 0)
      + (if least = true ∧ 0 < W.alo b then (if kE W + 1 = kS W ∧ (b : Int) = (a : Int) then W.alo b else 0) + (if kS W = kS W ∧ kE W + 2 = (a : Int) then W.alo b else 0) else 0)
      + sm (W.row b) (fun r => if (b : Int) = kS W ∧ (W.n : Int) + r = (a : Int) then 1 else 0)) = sm (List.range W.n) (fun b => if b = a then W.ahi b - lowA W least b else 0) := sm_congr fun b hb => by
    have hb := List.mem_range.mp hb
    rw [rows_none (W := W) (fun c hc r hr z => by have := z.1; unfold kS at this; omega) b hb]
    have h1 : ¬ (kE W + 1 = kS W ∧ (b : Int) = (a : Int)) := fun z => by have := z.1; unfold kE kS at this; omega
    have h2 : ¬ (kS W = kS W ∧ kE W + 2 = (a : Int)) := fun z => by have := z.2; unfold kE at this; omega
    rw [if_neg h1, if_neg h2]
    by_cases e : b = a
    · subst e
      rw [if_pos ⟨rfl, rfl⟩, if_pos rfl]
      unfold lowA
      split <;> split <;> omega
    · rw [if_neg (fun z => e (by omega)), if_neg e]
      split <;> rfl
  rw [hA, sm_delta List.nodup_range (List.mem_range.mpr ha)]
  rw [sm_zero fun r hr => ?_]
  · have h3 : ¬ (kE W = kS W ∧ kS W = (a : Int)) := fun z => by have := z.1; unfold kE kS at this; omega
    rw [if_neg h3]
    split <;> omega
  · have hr := List.mem_range.mp hr
    have h1 : ¬ ((W.n : Int) + (r : Int) = kS W ∧ kE W = (a : Int)) := fun z => by have := z.2; unfold kE at this; omega
    have h2 : ¬ ((W.n : Int) + (r : Int) = kS W ∧ kE W + 2 = (a : Int)) := fun z => by have := z.2; unfold kE at this; omega
    have h3 : ¬ (kE W + 1 = kS W ∧ kE W = (a : Int)) := fun z => by have := z.2; unfold kE at this; omega
    rw [if_neg h1, if_neg h2, if_neg h3]
    split <;> rfl
theorem cap_low_a : cap (opsOf W least) (kE W + 1) (a : Int) = lowA W least a := by
  rw [cap_form]
  have hA : sm (List.range W.n) (fun b => (if kS W = kE W + 1 ∧ (b : Int) = (a : Int) then (if least = true then W.ahi b - W.alo b else W.ahi b) else 0)
      + (if least = true ∧ 0 < W.alo b then (if kE W + 1 = kE W + 1 ∧ (b : Int) = (a : Int) then W.alo b else 0) + (if kS W = kE W + 1 ∧ kE W + 2 = (a : Int) then W.alo b else 0) else 0)
      + sm (W.row b) (fun r => if (b : Int) = kE W + 1 ∧ (W.n : Int) + r = (a : Int) then 1 else 0)) = sm (List.range W.n) (fun b => if b = a then lowA W least b else 0) := sm_congr fun b hb => by
    have hb := List.mem_range.mp hb
    have hbb := ok.ab b hb
    rw [rows_none (W := W) (fun c hc r hr z => by have := z.1; unfold kE at this; omega) b hb]
    have h1 : ¬ (kS W = kE W + 1 ∧ (b : Int) = (a : Int)) := fun z => by have := z.1; simp only [kE, kS] at this; omega
    have h2 : ¬ (kS W = kE W + 1 ∧ kE W + 2 = (a : Int)) := fun z => by have := z.1; simp only [kE, kS] at this; omega
    rw [if_neg h1, if_neg h2]
    by_cases e : b = a
    · subst e
      have h0 : kE W + 1 = kE W + 1 ∧ (b : Int) = (b : Int) := ⟨rfl, rfl⟩
      rw [if_pos h0, if_pos rfl]
      unfold lowA
      by_cases h : least = true
      · rw [if_pos h]
        split
        · omega
        · rename_i z
          have : ¬ 0 < W.alo b := fun y => z ⟨h, y⟩
          omega
      · rw [if_neg h, if_neg fun z => h z.1]
        rfl
    · have h0 : ¬ (kE W + 1 = kE W + 1 ∧ (b : Int) = (a : Int)) := fun z => e (by have := z.2; omega)
      rw [if_neg h0, if_neg e]
      split <;> rfl
  rw [hA, sm_delta List.nodup_range (List.mem_range.mpr ha)]
  rw [sm_zero fun r hr => ?_]
  · have h3 : ¬ (kE W = kE W + 1 ∧ kS W = (a : Int)) := fun z => by have := z.1; unfold kE at this; omega
    rw [if_neg h3]
    split <;> omega
  · have hr := List.mem_range.mp hr
    have h1 : ¬ ((W.n : Int) + (r : Int) = kE W + 1 ∧ kE W = (a : Int)) := fun z => by have := z.2; unfold kE at this; omega
    have h2 : ¬ ((W.n : Int) + (r : Int) = kE W + 1 ∧ kE W + 2 = (a : Int)) := fun z => by have := z.2; unfold kE at this; omega
    have h3 : ¬ (kE W + 1 = kE W + 1 ∧ kE W = (a : Int)) := fun z => by have := z.2; unfold kE at this; omega
    rw [if_neg h1, if_neg h2, if_neg h3]
    split <;> rfl
end capsA
/-- the pipe from a to a room that it lists -/
theorem cap_row (ok : W.Ok) {a : Nat} (ha : a < W.n) {r : Int} (hr : r ∈ W.row a) : cap (opsOf W least) (a : Int) ((W.n : Int) + r) = 1 := by
  rw [cap_form]
  have hrr := ok.inR a r hr
  have hA : sm (List.range W.n) (fun b => (if kS W = (a : Int) ∧ (b : Int) = (W.n : Int) + r then (if least = true then W.ahi b - W.alo b else W.ahi b) else 0)
      + (if least = true ∧ 0 < W.alo b then (if kE W + 1 = (a : Int) ∧ (b : Int) = (W.n : Int) + r then W.alo b else 0) + (if kS W = (a : Int) ∧ kE W + 2 = (W.n : Int) + r then W.alo b else 0) else 0)
      + sm (W.row b) (fun r' => if (b : Int) = (a : Int) ∧ (W.n : Int) + r' = (W.n : Int) + r then 1 else 0)) = sm (List.range W.n) (fun b => if b = a then 1 else 0) := sm_congr fun b hb => by
    have hb := List.mem_range.mp hb
    have h0 : ¬ (kS W = (a : Int) ∧ (b : Int) = (W.n : Int) + r) := fun z => by have := z.2; omega
    have h1 : ¬ (kE W + 1 = (a : Int) ∧ (b : Int) = (W.n : Int) + r) := fun z => by have := z.2; omega
    have h2 : ¬ (kS W = (a : Int) ∧ kE W + 2 = (W.n : Int) + r) := fun z => by have := z.1; simp only [kS] at this; omega
    rw [if_neg h0, if_neg h1, if_neg h2]
    by_cases e : b = a
    · subst e
      rw [if_pos rfl]
      have : sm (W.row b) (fun r' => if (b : Int) = (b : Int) ∧ (W.n : Int) + r' = (W.n : Int) + r then (1 : Int) else 0) = sm (W.row b) (fun r' => if r' = r then 1 else 0) := sm_congr fun r' _ => by
        by_cases e2 : r' = r
        · have h5 : (b : Int) = (b : Int) ∧ (W.n : Int) + r' = (W.n : Int) + r := ⟨rfl, by rw [e2]⟩
          rw [if_pos h5, if_pos e2]
        · have h5 : ¬ ((b : Int) = (b : Int) ∧ (W.n : Int) + r' = (W.n : Int) + r) := fun z => e2 (by have := z.2; omega)
          rw [if_neg h5, if_neg e2]
      rw [this, sm_delta (ok.nd b) hr]
      split <;> rfl
    · rw [if_neg e, sm_zero fun r' _ => if_neg fun z => e (by have := z.1; omega)]
      split <;> rfl
  rw [hA, sm_delta List.nodup_range (List.mem_range.mpr ha), sm_zero fun r' hr' => ?_]
  · have h3 : ¬ (kE W = (a : Int) ∧ kS W = (W.n : Int) + r) := fun z => by have := z.1; simp only [kE] at this; omega
    rw [if_neg h3]
    split <;> rfl
  · have h1 : ¬ ((W.n : Int) + (r' : Int) = (a : Int) ∧ kE W = (W.n : Int) + r) := fun z => by have := z.1; omega
    have h2 : ¬ ((W.n : Int) + (r' : Int) = (a : Int) ∧ kE W + 2 = (W.n : Int) + r) := fun z => by have := z.1; omega
    have h3 : ¬ (kE W + 1 = (a : Int) ∧ kE W = (W.n : Int) + r) := fun z => by have := z.1; simp only [kE] at this; omega
    rw [if_neg h1, if_neg h2, if_neg h3]
    split <;> rfl
theorem rows_zero {x y : Int} (h : ∀ b, b < W.n → ∀ r ∈ W.row b, ¬ ((b : Int) = x ∧ (W.n : Int) + r = y)) (h0 : ∀ b, b < W.n → ¬ (kS W = x ∧ (b : Int) = y)) (h1 : ∀ b, b < W.n → ¬ (kE W + 1 = x ∧ (b : Int) = y)) (h2 : ¬ (kS W = x ∧ kE W + 2 = y)) :
    sm (List.range W.n) (fun a => (if kS W = x ∧ (a : Int) = y then (if least = true then W.ahi a - W.alo a else W.ahi a) else 0)
      + (if least = true ∧ 0 < W.alo a then (if kE W + 1 = x ∧ (a : Int) = y then W.alo a else 0) + (if kS W = x ∧ kE W + 2 = y then W.alo a else 0) else 0)
      + sm (W.row a) (fun r => if (a : Int) = x ∧ (W.n : Int) + r = y then 1 else 0)) = 0 := sm_zero fun b hb => by
  have hb := List.mem_range.mp hb
  rw [if_neg (h0 b hb), if_neg (h1 b hb), if_neg h2, rows_none h b hb]
  split <;> rfl
theorem cap_room_end {r : Nat} (hr : r < W.m) : cap (opsOf W least) ((W.n : Int) + (r : Int)) (kE W) = W.rhi r - lowR W least r := by
  rw [cap_form, rows_zero (fun b hb q _ z => by have := z.1; omega) (fun b hb z => by have := z.1; simp only [kS] at this; omega) (fun b hb z => by have := z.1; simp only [kE] at this; omega) (fun z => by have := z.1; simp only [kS] at this; omega)]
  have h3 : ¬ (kE W = (W.n : Int) + (r : Int) ∧ kS W = kE W) := fun z => by have := z.1; simp only [kE] at this; omega
  rw [if_neg h3]
  have hA : sm (List.range W.m) (fun q => (if (W.n : Int) + (q : Int) = (W.n : Int) + (r : Int) ∧ kE W = kE W then (if least = true then W.rhi q - W.rlo q else W.rhi q) else 0)
      + (if least = true ∧ 0 < W.rlo q then (if (W.n : Int) + (q : Int) = (W.n : Int) + (r : Int) ∧ kE W + 2 = kE W then W.rlo q else 0) + (if kE W + 1 = (W.n : Int) + (r : Int) ∧ kE W = kE W then W.rlo q else 0) else 0)) = sm (List.range W.m) (fun q => if q = r then W.rhi q - lowR W least q else 0) := sm_congr fun q hq => by
    have h1 : ¬ ((W.n : Int) + (q : Int) = (W.n : Int) + (r : Int) ∧ kE W + 2 = kE W) := fun z => by have := z.2; omega
    have h2 : ¬ (kE W + 1 = (W.n : Int) + (r : Int) ∧ kE W = kE W) := fun z => by have := z.1; simp only [kE] at this; omega
    rw [if_neg h1, if_neg h2]
    by_cases e : q = r
    · subst e
      rw [if_pos ⟨rfl, rfl⟩, if_pos rfl]
      unfold lowR
      split <;> split <;> omega
    · have h5 : ¬ ((W.n : Int) + (q : Int) = (W.n : Int) + (r : Int) ∧ kE W = kE W) := fun z => e (by have := z.1; omega)
      rw [if_neg h5, if_neg e]
      split <;> rfl
  rw [hA, sm_delta List.nodup_range (List.mem_range.mpr hr)]
  split <;> omega
theorem cap_room_low (ok : W.Ok) {r : Nat} (hr : r < W.m) : cap (opsOf W least) ((W.n : Int) + (r : Int)) (kE W + 2) = lowR W least r := by
  rw [cap_form, rows_zero (fun b hb q hq z => by have := z.1; omega) (fun b hb z => by have := z.1; simp only [kS] at this; omega) (fun b hb z => by have := z.1; simp only [kE] at this; omega) (fun z => by have := z.1; simp only [kS] at this; omega)]
  have h3 : ¬ (kE W = (W.n : Int) + (r : Int) ∧ kS W = kE W + 2) := fun z => by have := z.1; simp only [kE] at this; omega
  rw [if_neg h3]
  have hA : sm (List.range W.m) (fun q => (if (W.n : Int) + (q : Int) = (W.n : Int) + (r : Int) ∧ kE W = kE W + 2 then (if least = true then W.rhi q - W.rlo q else W.rhi q) else 0)
      + (if least = true ∧ 0 < W.rlo q then (if (W.n : Int) + (q : Int) = (W.n : Int) + (r : Int) ∧ kE W + 2 = kE W + 2 then W.rlo q else 0) + (if kE W + 1 = (W.n : Int) + (r : Int) ∧ kE W = kE W + 2 then W.rlo q else 0) else 0)) = sm (List.range W.m) (fun q => if q = r then lowR W least q else 0) := sm_congr fun q hq => by
    have hqb := ok.rb q (List.mem_range.mp hq)
    have h1 : ¬ ((W.n : Int) + (q : Int) = (W.n : Int) + (r : Int) ∧ kE W = kE W + 2) := fun z => by have := z.2; omega
    have h2 : ¬ (kE W + 1 = (W.n : Int) + (r : Int) ∧ kE W = kE W + 2) := fun z => by have := z.2; omega
    rw [if_neg h1, if_neg h2]
    by_cases e : q = r
    · subst e
      have h0 : (W.n : Int) + (q : Int) = (W.n : Int) + (q : Int) ∧ kE W + 2 = kE W + 2 := ⟨rfl, rfl⟩
      rw [if_pos h0, if_pos rfl]
      unfold lowR
      by_cases h : least = true
      · rw [if_pos h]
        split
        · omega
        · rename_i z
          have : ¬ 0 < W.rlo q := fun y => z ⟨h, y⟩
          omega
      · rw [if_neg h, if_neg fun z => h z.1]
        rfl
    · have h5 : ¬ ((W.n : Int) + (q : Int) = (W.n : Int) + (r : Int) ∧ kE W + 2 = kE W + 2) := fun z => e (by have := z.1; omega)
      rw [if_neg h5, if_neg e]
      split <;> rfl
  rw [hA, sm_delta List.nodup_range (List.mem_range.mpr hr)]
  split <;> omega
/-- no pipe goes so -/
theorem cap_zero {x y : Int} (h : ∀ o ∈ opsOf W least, ¬ (o.1 = x ∧ o.2.1 = y)) : cap (opsOf W least) x y = 0 := sm_zero fun o ho => if_neg (h o ho)
theorem touch_none {x y : Int} (h : ∀ o ∈ opsOf W least, ¬ (o.1 = x ∧ o.2.1 = y) ∧ ¬ (o.1 = y ∧ o.2.1 = x)) : touch (opsOf W least) x y = false := by
  unfold touch
  refine List.any_eq_false.mpr fun o ho => ?_
  obtain ⟨h1, h2⟩ := h o ho
  simpa using ⟨fun a b => h1 ⟨a, b⟩, fun a b => h2 ⟨a, b⟩⟩
section zeros
variable (ok : W.Ok)
include ok
theorem cap_a_start {a : Nat} (ha : a < W.n) : cap (opsOf W least) (a : Int) (kS W) = 0 := cap_zero (by
  refine all_ops (fun b hb z => ?_) (fun b hb _ _ z => ?_) (fun b hb _ _ z => ?_) (fun b hb r hr z => ?_) (fun r hr z => ?_) (fun r hr _ _ z => ?_) (fun r hr _ _ z => ?_) fun _ z => ?_
  case refine_4 => have := ok.inR b r hr; simp only [kE, kS] at z; omega
  all_goals (simp only [kE, kS] at z; omega))
theorem cap_a_low {a : Nat} (ha : a < W.n) : cap (opsOf W least) (a : Int) (kE W + 1) = 0 := cap_zero (by
  refine all_ops (fun b hb z => ?_) (fun b hb _ _ z => ?_) (fun b hb _ _ z => ?_) (fun b hb r hr z => ?_) (fun r hr z => ?_) (fun r hr _ _ z => ?_) (fun r hr _ _ z => ?_) fun _ z => ?_
  case refine_4 => have := ok.inR b r hr; simp only [kE, kS] at z; omega
  all_goals (simp only [kE, kS] at z; omega))
theorem cap_back {a : Nat} (ha : a < W.n) {r : Int} (h0 : 0 ≤ r ∧ r < (W.m : Int)) : cap (opsOf W least) ((W.n : Int) + r) (a : Int) = 0 := cap_zero (by
  refine all_ops (fun b hb z => ?_) (fun b hb _ _ z => ?_) (fun b hb _ _ z => ?_) (fun b hb r hr z => ?_) (fun r hr z => ?_) (fun r hr _ _ z => ?_) (fun r hr _ _ z => ?_) fun _ z => ?_
  case refine_4 => have := ok.inR b r hr; simp only [kE, kS] at z; omega
  all_goals (simp only [kE, kS] at z; omega))
theorem cap_end_room {r : Nat} (hr : r < W.m) : cap (opsOf W least) (kE W) ((W.n : Int) + (r : Int)) = 0 := cap_zero (by
  refine all_ops (fun b hb z => ?_) (fun b hb _ _ z => ?_) (fun b hb _ _ z => ?_) (fun b hb r hr z => ?_) (fun r hr z => ?_) (fun r hr _ _ z => ?_) (fun r hr _ _ z => ?_) fun _ z => ?_
  case refine_4 => have := ok.inR b r hr; simp only [kE, kS] at z; omega
  all_goals (simp only [kE, kS] at z; omega))
theorem touch_a {a : Nat} (ha : a < W.n) {y : Int} (h1 : y ≠ kS W) (h2 : y ≠ kE W + 1) (h3 : ∀ r ∈ W.row a, y ≠ (W.n : Int) + r) : touch (opsOf W least) (a : Int) y = false := touch_none (by
  refine all_ops (fun b hb => ?_) (fun b hb _ _ => ?_) (fun b hb _ _ => ?_) (fun b hb r hr => ?_) (fun r hr => ?_) (fun r hr _ _ => ?_) (fun r hr _ _ => ?_) fun _ => ?_
  case refine_4 =>
    have := ok.inR b r hr
    refine ⟨fun z => ?_, fun z => ?_⟩
    · have e : b = a := by have := z.1; omega
      subst e
      exact h3 r hr z.2.symm
    · have := z.2; simp only at this; omega
  all_goals (simp only [kE, kS] at h1 h2 ⊢; omega))
theorem touch_r {r : Nat} (hr : r < W.m) {y : Int} (h1 : y ≠ kE W) (h2 : y ≠ kE W + 2) (h3 : ∀ a, a < W.n → (r : Int) ∈ W.row a → y ≠ (a : Int)) : touch (opsOf W least) ((W.n : Int) + (r : Int)) y = false := touch_none (by
  refine all_ops (fun b hb => ?_) (fun b hb _ _ => ?_) (fun b hb _ _ => ?_) (fun b hb q hq => ?_) (fun q hq => ?_) (fun q hq _ _ => ?_) (fun q hq _ _ => ?_) fun _ => ?_
  case refine_4 =>
    have := ok.inR b q hq
    refine ⟨fun z => ?_, fun z => ?_⟩
    · have := z.1; simp only at this; omega
    · have e : q = (r : Int) := by have := z.2; simp only at this; omega
      subst e
      exact h3 b hb hq z.1.symm
  all_goals (simp only [kE, kS] at h1 h2 ⊢; omega))
/-- what leaves the start of the least net in all; what comes to its end -/
theorem out_must : sm (opsOf W true) (fun o => if o.1 = kE W + 1 then o.2.2 else 0) = must W true := by
  rw [sm_ops]
  have hl : ¬ (kE W = kE W + 1) := by omega
  rw [if_pos rfl]
  show _ + _ + (if kE W = kE W + 1 then _ else (0 : Int)) = _
  rw [if_neg hl, Int.add_zero]
  unfold must mustA mustR
  congr 1
  · refine sm_congr fun a ha => ?_
    have ha := List.mem_range.mp ha
    rw [sm_ask, sm_zero fun r hr => if_neg (by show ¬ ((a : Int) = kE W + 1); simp only [kE]; omega)]
    show (if kS W = kE W + 1 then _ else (0 : Int)) + (if _ then (if kE W + 1 = kE W + 1 then W.alo a else 0) + (if kS W = kE W + 1 then W.alo a else 0) else 0) + 0 = _
    have h1 : ¬ (kS W = kE W + 1) := by simp only [kE, kS]; omega
    rw [if_neg h1, if_pos rfl, if_neg h1]
    simp only [Int.add_zero, Int.zero_add]
  · refine sm_congr fun r hr => ?_
    have hr := List.mem_range.mp hr
    rw [sm_room]
    show (if (W.n : Int) + (r : Int) = kE W + 1 then _ else (0 : Int)) + (if _ then (if (W.n : Int) + (r : Int) = kE W + 1 then W.rlo r else 0) + (if kE W + 1 = kE W + 1 then W.rlo r else 0) else 0) = _
    have h1 : ¬ ((W.n : Int) + (r : Int) = kE W + 1) := by simp only [kE]; omega
    rw [if_neg h1, if_neg h1, if_pos rfl]
    simp only [Int.add_zero, Int.zero_add]
theorem in_must : sm (opsOf W true) (fun o => if o.2.1 = kE W + 2 then o.2.2 else 0) = must W true := by
  rw [sm_ops]
  have hl : ¬ (kS W = kE W + 2) := by simp only [kE, kS]; omega
  rw [if_pos rfl]
  show _ + _ + (if kS W = kE W + 2 then _ else (0 : Int)) = _
  rw [if_neg hl, Int.add_zero]
  unfold must mustA mustR
  congr 1
  · refine sm_congr fun a ha => ?_
    have ha := List.mem_range.mp ha
    rw [sm_ask, sm_zero fun r hr => if_neg (by show ¬ ((W.n : Int) + r = kE W + 2); have := ok.inR a r hr; simp only [kE]; omega)]
    show (if (a : Int) = kE W + 2 then _ else (0 : Int)) + (if _ then (if (a : Int) = kE W + 2 then W.alo a else 0) + (if kE W + 2 = kE W + 2 then W.alo a else 0) else 0) + 0 = _
    have h1 : ¬ ((a : Int) = kE W + 2) := by simp only [kE]; omega
    rw [if_neg h1, if_neg h1, if_pos rfl]
    simp only [Int.add_zero, Int.zero_add]
  · refine sm_congr fun r hr => ?_
    have hr := List.mem_range.mp hr
    rw [sm_room]
    show (if kE W = kE W + 2 then _ else (0 : Int)) + (if _ then (if kE W + 2 = kE W + 2 then W.rlo r else 0) + (if kE W = kE W + 2 then W.rlo r else 0) else 0) = _
    have h1 : ¬ (kE W = kE W + 2) := by omega
    rw [if_neg h1, if_neg h1, if_pos rfl]
    simp only [Int.add_zero, Int.zero_add]
end zeros
end Pm
end
section
/-! K22Law: lots of pairs, what bounds they keep, and that flows find the most and the kept ones. -/
set_option autoImplicit false
set_option linter.all false
namespace Pm
variable {W : Wt} {least : Bool}
abbrev Lot := List (Int × Int)
def pairsAll (W : Wt) : Lot := (List.range W.n).flatMap fun a => (W.row a).map fun r => ((a : Int), r)
def pairsOf (W : Wt) (g : Int → Int → Int) : Lot := (List.range W.n).flatMap fun a => ((W.row a).filter fun r => decide (0 < g (a : Int) ((W.n : Int) + r))).map fun r => ((a : Int), r)
/-- all lots, in the law's order -/
def allLots (ps : Lot) : List Lot := ps.foldl (fun f p => f ++ f.map fun l => l ++ [p]) [[]]
def cntA (l : Lot) (k : Int) : Int := ((l.filter fun p => decide (p.1 = k)).length : Int)
def cntR (l : Lot) (k : Int) : Int := ((l.filter fun p => decide (p.2 = k)).length : Int)
def keptB (W : Wt) (l : Lot) (least : Bool) : Bool :=
  (List.range W.n).all (fun a => !(decide (W.ahi a < cntA l (a : Int)) || least && decide (cntA l (a : Int) < W.alo a))) &&
  (List.range W.m).all (fun r => !(decide (W.rhi r < cntR l (r : Int)) || least && decide (cntR l (r : Int) < W.rlo r)))
theorem keptB_iff {l : Lot} : keptB W l least = true ↔ (∀ a, a < W.n → cntA l (a : Int) ≤ W.ahi a ∧ (least = true → W.alo a ≤ cntA l (a : Int))) ∧ (∀ r, r < W.m → cntR l (r : Int) ≤ W.rhi r ∧ (least = true → W.rlo r ≤ cntR l (r : Int))) := by
  unfold keptB
  rw [Bool.and_eq_true, List.all_eq_true, List.all_eq_true]
  have key : ∀ (c h lo : Int), (!(decide (h < c) || least && decide (c < lo))) = true ↔ (c ≤ h ∧ (least = true → lo ≤ c)) := fun c h lo => by
    cases least
    · simp
    · simp
  constructor
  · rintro ⟨h1, h2⟩
    exact ⟨fun a ha => (key _ _ _).mp (h1 a (List.mem_range.mpr ha)), fun r hr => (key _ _ _).mp (h2 r (List.mem_range.mpr hr))⟩
  · rintro ⟨h1, h2⟩
    exact ⟨fun a ha => (key _ _ _).mpr (h1 a (List.mem_range.mp ha)), fun r hr => (key _ _ _).mpr (h2 r (List.mem_range.mp hr))⟩
theorem cntA_sm (l : Lot) (k : Int) : cntA l k = sm l (fun p => if p.1 = k then 1 else 0) := by
  unfold cntA
  rw [← sm_count]
  exact sm_congr fun p _ => by simp
theorem cntR_sm (l : Lot) (k : Int) : cntR l k = sm l (fun p => if p.2 = k then 1 else 0) := by
  unfold cntR
  rw [← sm_count]
  exact sm_congr fun p _ => by simp
/-! ### lots -/
theorem foldl_lots (ps : Lot) : ∀ (f : List Lot), ∀ l, l ∈ ps.foldl (fun f p => f ++ f.map fun l => l ++ [p]) f ↔ ∃ a ∈ f, ∃ b, b.Sublist ps ∧ l = a ++ b := by
  induction ps with
  | nil =>
    intro f l
    constructor
    · intro h; exact ⟨l, h, [], List.Sublist.refl _, by simp⟩
    · rintro ⟨a, ha, b, hb, rfl⟩
      have : b = [] := List.sublist_nil.mp hb
      subst this
      simpa using ha
  | cons p ps ih =>
    intro f l
    rw [List.foldl_cons, ih]
    constructor
    · rintro ⟨a, ha, b, hb, rfl⟩
      rcases List.mem_append.mp ha with ha | ha
      · exact ⟨a, ha, b, hb.cons _, rfl⟩
      · obtain ⟨c, hc, rfl⟩ := List.mem_map.mp ha
        exact ⟨c, hc, p :: b, hb.cons_cons _, by simp⟩
    · rintro ⟨a, ha, b, hb, rfl⟩
      cases hb with
      | cons _ hb => exact ⟨a, List.mem_append_left _ ha, b, hb, rfl⟩
      | cons_cons _ hb =>
        rename_i b'
        exact ⟨a ++ [p], List.mem_append_right _ (List.mem_map.mpr ⟨a, ha, rfl⟩), b', hb, by simp⟩
theorem mem_allLots {ps l : Lot} : l ∈ allLots ps ↔ l.Sublist ps := by
  unfold allLots
  rw [foldl_lots]
  constructor
  · rintro ⟨a, ha, b, hb, rfl⟩
    have : a = [] := List.mem_singleton.mp ha
    subst this
    simpa using hb
  · intro h
    exact ⟨[], List.mem_singleton.mpr rfl, l, h, rfl⟩
theorem mem_pairsAll {p : Int × Int} : p ∈ pairsAll W ↔ ∃ a, a < W.n ∧ p.1 = (a : Int) ∧ p.2 ∈ W.row a := by
  unfold pairsAll
  rw [List.mem_flatMap]
  constructor
  · rintro ⟨a, ha, hp⟩
    obtain ⟨r, hr, rfl⟩ := List.mem_map.mp hp
    exact ⟨a, List.mem_range.mp ha, rfl, hr⟩
  · rintro ⟨a, ha, h1, h2⟩
    obtain ⟨x, y⟩ := p
    simp only at h1 h2
    subst h1
    exact ⟨a, List.mem_range.mpr ha, List.mem_map.mpr ⟨y, h2, rfl⟩⟩
theorem sublist_flatMap {α β : Type} (l : List α) {f g : α → List β} (h : ∀ a ∈ l, (f a).Sublist (g a)) : (l.flatMap f).Sublist (l.flatMap g) := by
  induction l with
  | nil => exact List.Sublist.refl _
  | cons a l ih =>
    rw [List.flatMap_cons, List.flatMap_cons]
    exact (h a List.mem_cons_self).append (ih fun b hb => h b (List.mem_cons_of_mem _ hb))
theorem pairsOf_sub (g : Int → Int → Int) : (pairsOf W g).Sublist (pairsAll W) := sublist_flatMap _ fun a _ => List.Sublist.map _ List.filter_sublist
theorem sm_sublist {α : Type} {l r : List α} (h : l.Sublist r) {f : α → Int} (hf : ∀ a, 0 ≤ f a) : sm l f ≤ sm r f := by
  induction h with
  | slnil => exact Int.le_refl _
  | cons a _ ih => simp only [sm_cons]; have := hf a; omega
  | cons_cons a _ ih => simp only [sm_cons]; omega
/-- counts over the askers of a word, over the lot -/
theorem sum_cntA {l : Lot} (h : ∀ p ∈ l, ∃ a, a < W.n ∧ p.1 = (a : Int)) (q : Int → Bool) : sm (List.range W.n) (fun a => if q (a : Int) = true then cntA l (a : Int) else 0) = sm l (fun p => if q p.1 = true then 1 else 0) := by
  have e1 : sm (List.range W.n) (fun a => if q (a : Int) = true then cntA l (a : Int) else 0) = sm (List.range W.n) (fun a => sm l (fun p => if p.1 = (a : Int) then (if q p.1 = true then 1 else 0) else 0)) := sm_congr fun a _ => by
    rw [cntA_sm]
    by_cases h : q (a : Int) = true
    · rw [if_pos h]
      refine sm_congr fun p _ => ?_
      by_cases e : p.1 = (a : Int)
      · rw [if_pos e, if_pos e, e, if_pos h]
      · rw [if_neg e, if_neg e]
    · rw [if_neg h]
      refine (sm_zero fun p _ => ?_).symm
      by_cases e : p.1 = (a : Int)
      · rw [if_pos e, e, if_neg h]
      · rw [if_neg e]
  rw [e1, sm_swap]
  refine sm_congr fun p hp => ?_
  obtain ⟨a, ha, e⟩ := h p hp
  have : sm (List.range W.n) (fun b => if p.1 = (b : Int) then (if q p.1 = true then (1 : Int) else 0) else 0) = sm (List.range W.n) (fun b => if b = a then (if q p.1 = true then 1 else 0) else 0) := sm_congr fun b _ => by
    by_cases e2 : b = a
    · rw [if_pos e2, if_pos (by rw [e, e2])]
    · rw [if_neg e2, if_neg (by rw [e]; omega)]
  rw [this, sm_delta List.nodup_range (List.mem_range.mpr ha)]
theorem sum_cntR {l : Lot} (h : ∀ p ∈ l, ∃ r, r < W.m ∧ p.2 = (r : Int)) (q : Int → Bool) : sm (List.range W.m) (fun r => if q (r : Int) = true then cntR l (r : Int) else 0) = sm l (fun p => if q p.2 = true then 1 else 0) := by
  have e1 : sm (List.range W.m) (fun a => if q (a : Int) = true then cntR l (a : Int) else 0) = sm (List.range W.m) (fun a => sm l (fun p => if p.2 = (a : Int) then (if q p.2 = true then 1 else 0) else 0)) := sm_congr fun a _ => by
    rw [cntR_sm]
    by_cases h : q (a : Int) = true
    · rw [if_pos h]
      refine sm_congr fun p _ => ?_
      by_cases e : p.2 = (a : Int)
      · rw [if_pos e, if_pos e, e, if_pos h]
      · rw [if_neg e, if_neg e]
    · rw [if_neg h]
      refine (sm_zero fun p _ => ?_).symm
      by_cases e : p.2 = (a : Int)
      · rw [if_pos e, e, if_neg h]
      · rw [if_neg e]
  rw [e1, sm_swap]
  refine sm_congr fun p hp => ?_
  obtain ⟨a, ha, e⟩ := h p hp
  have : sm (List.range W.m) (fun b => if p.2 = (b : Int) then (if q p.2 = true then (1 : Int) else 0) else 0) = sm (List.range W.m) (fun b => if b = a then (if q p.2 = true then 1 else 0) else 0) := sm_congr fun b _ => by
    by_cases e2 : b = a
    · rw [if_pos e2, if_pos (by rw [e, e2])]
    · rw [if_neg e2, if_neg (by rw [e]; omega)]
  rw [this, sm_delta List.nodup_range (List.mem_range.mpr ha)]
theorem lot_a {l : Lot} (h : l.Sublist (pairsAll W)) : ∀ p ∈ l, ∃ a, a < W.n ∧ p.1 = (a : Int) := fun p hp => by
  obtain ⟨a, ha, e, _⟩ := mem_pairsAll.mp (h.mem hp)
  exact ⟨a, ha, e⟩
theorem lot_r (ok : W.Ok) {l : Lot} (h : l.Sublist (pairsAll W)) : ∀ p ∈ l, ∃ r, r < W.m ∧ p.2 = (r : Int) := fun p hp => by
  obtain ⟨a, _, _, hr⟩ := mem_pairsAll.mp (h.mem hp)
  have := ok.inR a _ hr
  exact ⟨p.2.toNat, by omega, by omega⟩
/-! ### cuts -/
/-- the links from the askers of a word to the rooms that are not of another -/
def linkX (W : Wt) (qa qr : Int → Bool) : Int := sm (List.range W.n) (fun a => if qa (a : Int) = true then sm (W.row a) (fun r => if qr r = true then 0 else 1) else 0)
theorem linkX_pairs (qa qr : Int → Bool) : linkX W qa qr = sm (pairsAll W) (fun p => if (qa p.1 && !qr p.2) = true then 1 else 0) := by
  unfold linkX pairsAll
  rw [sm_flatMap]
  refine sm_congr fun a _ => ?_
  rw [sm_map]
  by_cases h : qa (a : Int) = true
  · rw [if_pos h]
    refine sm_congr fun r _ => ?_
    cases h2 : qr r <;> simp [h, h2]
  · rw [if_neg h]
    exact (sm_zero fun r _ => by simp [h]).symm
/-- what a cut lets by -/
def cutW (W : Wt) (qa qr : Int → Bool) : Int := sm (List.range W.n) (fun a => if qa (a : Int) = true then 0 else W.ahi a) + sm (List.range W.m) (fun r => if qr (r : Int) = true then W.rhi r else 0) + linkX W qa qr
def lowIn (W : Wt) (qa : Int → Bool) : Int := sm (List.range W.n) (fun a => if qa (a : Int) = true then W.alo a else 0)
def lowOut (W : Wt) (qr : Int → Bool) : Int := sm (List.range W.m) (fun r => if qr (r : Int) = true then 0 else W.rlo r)
def highIn (W : Wt) (qa qr : Int → Bool) : Int := sm (List.range W.m) (fun r => if qr (r : Int) = true then W.rhi r else 0) + linkX W qa qr
def highOut (W : Wt) (qa qr : Int → Bool) : Int := sm (List.range W.n) (fun a => if qa (a : Int) = true then 0 else W.ahi a) + linkX W qa qr
theorem lot_cross {l : Lot} (h : l.Sublist (pairsAll W)) (qa qr : Int → Bool) : sm l (fun p => if (qa p.1 && !qr p.2) = true then 1 else 0) ≤ linkX W qa qr := by
  rw [linkX_pairs]
  exact sm_sublist h fun p => by split <;> decide
theorem lot_others {l : Lot} (h : l.Sublist (pairsAll W)) (k : keptB W l least = true) (qa : Int → Bool) : sm l (fun p => if qa p.1 = true then 0 else 1) ≤ sm (List.range W.n) (fun a => if qa (a : Int) = true then 0 else W.ahi a) := by
  have e := sum_cntA (W := W) (lot_a h) (fun x => !qa x)
  have e1 : sm l (fun p => if qa p.1 = true then (0 : Int) else 1) = sm l (fun p => if (!qa p.1) = true then 1 else 0) := sm_congr fun p _ => by cases qa p.1 <;> rfl
  rw [e1, ← e]
  refine sm_le fun a ha => ?_
  have := ((keptB_iff.mp k).1 a (List.mem_range.mp ha)).1
  cases qa (a : Int) <;> simp [this]
theorem lot_rooms (ok : W.Ok) {l : Lot} (h : l.Sublist (pairsAll W)) (k : keptB W l least = true) (qr : Int → Bool) : sm l (fun p => if qr p.2 = true then 1 else 0) ≤ sm (List.range W.m) (fun r => if qr (r : Int) = true then W.rhi r else 0) := by
  rw [← sum_cntR (W := W) (lot_r ok h) qr]
  refine sm_le fun r hr => ?_
  have := ((keptB_iff.mp k).2 r (List.mem_range.mp hr)).1
  cases qr (r : Int) <;> simp [this]
/-- no lot that keeps the most counts is more than a cut lets by -/
theorem weak (ok : W.Ok) {l : Lot} (h : l.Sublist (pairsAll W)) (k : keptB W l least = true) (qa qr : Int → Bool) : (l.length : Int) ≤ cutW W qa qr := by
  have h1 := lot_others h k qa
  have h2 := lot_rooms ok h k qr
  have h3 := lot_cross h qa qr
  have h4 : (l.length : Int) ≤ sm l (fun p => if qa p.1 = true then 0 else 1) + sm l (fun p => if qr p.2 = true then 1 else 0) + sm l (fun p => if (qa p.1 && !qr p.2) = true then 1 else 0) := by
    rw [← sm_one, ← sm_add, ← sm_add]
    refine sm_le fun p _ => ?_
    cases qa p.1 <;> cases qr p.2 <;> decide
  unfold cutW
  omega
/-- where a cut shows that bounds can't be kept, none keeps them -/
theorem weak_low (ok : W.Ok) {l : Lot} (h : l.Sublist (pairsAll W)) (k : keptB W l true = true) (qa qr : Int → Bool) : lowIn W qa ≤ highIn W qa qr ∧ lowOut W qr ≤ highOut W qa qr := by
  have h1 := lot_others h k qa
  have h2 := lot_rooms ok h k qr
  have h3 := lot_cross h qa qr
  constructor
  · have h4 : lowIn W qa ≤ sm l (fun p => if qa p.1 = true then 1 else 0) := by
      rw [← sum_cntA (W := W) (lot_a h) qa]
      refine sm_le fun a ha => ?_
      have := ((keptB_iff.mp k).1 a (List.mem_range.mp ha)).2 rfl
      cases qa (a : Int) <;> simp [this]
    have h5 : sm l (fun p => if qa p.1 = true then (1 : Int) else 0) ≤ sm l (fun p => if qr p.2 = true then 1 else 0) + sm l (fun p => if (qa p.1 && !qr p.2) = true then 1 else 0) := by
      rw [← sm_add]
      refine sm_le fun p _ => ?_
      cases qa p.1 <;> cases qr p.2 <;> decide
    unfold highIn
    omega
  · have h4 : lowOut W qr ≤ sm l (fun p => if (!qr p.2) = true then 1 else 0) := by
      rw [← sum_cntR (W := W) (lot_r ok h) (fun x => !qr x)]
      refine sm_le fun r hr => ?_
      have := ((keptB_iff.mp k).2 r (List.mem_range.mp hr)).2 rfl
      cases qr (r : Int) <;> simp [this]
    have h5 : sm l (fun p => if (!qr p.2) = true then (1 : Int) else 0) ≤ sm l (fun p => if qa p.1 = true then 0 else 1) + sm l (fun p => if (qa p.1 && !qr p.2) = true then 1 else 0) := by
      rw [← sm_add]
      refine sm_le fun p _ => ?_
      cases qa p.1 <;> cases qr p.2 <;> decide
    unfold highOut
    omega
/-! ### what a flow says -/
section flows
variable {s t whole : Int} {g : Int → Int → Int}
theorem nonneg_of {V : List Int} {ops : List Op} (F : Flow V ops s t g whole) {x y : Int} (h : cap ops y x = 0) : 0 ≤ g x y := by
  have h1 := F.fits y x
  have h2 := F.anti x y
  omega
variable (ok : W.Ok) (F : Flow (VV W) (opsOf W least) s t g whole)
include ok F
theorem g_pair {a : Nat} (ha : a < W.n) {r : Int} (hr : r ∈ W.row a) : 0 ≤ g (a : Int) ((W.n : Int) + r) ∧ g (a : Int) ((W.n : Int) + r) ≤ 1 :=
  ⟨nonneg_of F (cap_back ok ha (ok.inR a r hr)), by rw [← cap_row (least := least) ok ha hr]; exact F.fits _ _⟩
theorem a_in_V {a : Nat} (ha : a < W.n) : (a : Int) ∈ VV W := mem_V.mpr (by omega)
theorem r_in_V {r : Nat} (hr : r < W.m) : (W.n : Int) + (r : Int) ∈ VV W := mem_V.mpr (by omega)
theorem sum_a {a : Nat} (ha : a < W.n) (hs : (a : Int) ≠ s) (ht : (a : Int) ≠ t) : sm (W.row a) (fun r => g (a : Int) ((W.n : Int) + r)) = g (kS W) (a : Int) + g (kE W + 1) (a : Int) := by
  have c := F.cons (a : Int) (a_in_V ok F ha) hs ht
  have sup : rowsum (VV W) g (a : Int) = sm (kS W :: (kE W + 1) :: (W.row a).map fun r => (W.n : Int) + r) (fun y => g (a : Int) y) := by
    refine sm_support (nV W) ?_ (fun x hx => ?_) fun x hx hn => ?_
    · refine List.nodup_cons.mpr ⟨fun h => ?_, List.nodup_cons.mpr ⟨fun h => ?_, nodup_map_inj (fun x _ y _ e => by omega) (ok.nd a)⟩⟩
      · rcases List.mem_cons.mp h with e | h
        · simp only [kS, kE] at e; omega
        · obtain ⟨r, hr, e⟩ := List.mem_map.mp h
          have := ok.inR a r hr
          simp only [kS] at e; omega
      · obtain ⟨r, hr, e⟩ := List.mem_map.mp h
        have := ok.inR a r hr
        simp only [kE] at e; omega
    · rw [mem_V]
      rcases List.mem_cons.mp hx with e | hx
      · simp only [kS] at e; omega
      rcases List.mem_cons.mp hx with e | hx
      · simp only [kE] at e; omega
      · obtain ⟨r, hr, e⟩ := List.mem_map.mp hx
        have := ok.inR a r hr
        omega
    · refine F.only _ _ (touch_a ok ha (fun e => hn (by rw [e]; exact List.mem_cons_self)) (fun e => hn (by rw [e]; exact List.mem_cons_of_mem _ List.mem_cons_self)) fun r hr e => hn (by rw [e]; exact List.mem_cons_of_mem _ (List.mem_cons_of_mem _ (List.mem_map.mpr ⟨r, hr, rfl⟩))))
  rw [sup, sm_cons, sm_cons, sm_map] at c
  have h1 := F.anti (a : Int) (kS W)
  have h2 := F.anti (a : Int) (kE W + 1)
  omega
theorem sum_r {r : Nat} (hr : r < W.m) (hs : (W.n : Int) + (r : Int) ≠ s) (ht : (W.n : Int) + (r : Int) ≠ t) :
    sm (List.range W.n) (fun a => if (r : Int) ∈ W.row a then g (a : Int) ((W.n : Int) + (r : Int)) else 0) = g ((W.n : Int) + (r : Int)) (kE W) + g ((W.n : Int) + (r : Int)) (kE W + 2) := by
  have c := F.cons ((W.n : Int) + (r : Int)) (r_in_V ok F hr) hs ht
  have sup : rowsum (VV W) g ((W.n : Int) + (r : Int)) = sm (kE W :: (kE W + 2) :: ((List.range W.n).filter fun a => decide ((r : Int) ∈ W.row a)).map fun a : Nat => (a : Int)) (fun y => g ((W.n : Int) + (r : Int)) y) := by
    refine sm_support (nV W) ?_ (fun x hx => ?_) fun x hx hn => ?_
    · refine List.nodup_cons.mpr ⟨fun h => ?_, List.nodup_cons.mpr ⟨fun h => ?_, nodup_map_inj (fun x _ y _ e => by omega) (List.nodup_range.sublist List.filter_sublist)⟩⟩
      · rcases List.mem_cons.mp h with e | h
        · omega
        · obtain ⟨a, ha, e⟩ := List.mem_map.mp h
          have := List.mem_range.mp (List.mem_filter.mp ha).1
          simp only [kE] at e; omega
      · obtain ⟨a, ha, e⟩ := List.mem_map.mp h
        have := List.mem_range.mp (List.mem_filter.mp ha).1
        simp only [kE] at e; omega
    · rw [mem_V]
      rcases List.mem_cons.mp hx with e | hx
      · simp only [kE] at e; omega
      rcases List.mem_cons.mp hx with e | hx
      · simp only [kE] at e; omega
      · obtain ⟨a, ha, e⟩ := List.mem_map.mp hx
        have := List.mem_range.mp (List.mem_filter.mp ha).1
        omega
    · refine F.only _ _ (touch_r ok hr (fun e => hn (by rw [e]; exact List.mem_cons_self)) (fun e => hn (by rw [e]; exact List.mem_cons_of_mem _ List.mem_cons_self)) fun a ha hra e => hn (by rw [e]; exact List.mem_cons_of_mem _ (List.mem_cons_of_mem _ (List.mem_map.mpr ⟨a, List.mem_filter.mpr ⟨List.mem_range.mpr ha, decide_eq_true hra⟩, rfl⟩))))
  rw [sup, sm_cons, sm_cons, sm_map, sm_filter] at c
  have e : sm (List.range W.n) (fun a => if decide ((r : Int) ∈ W.row a) = true then g ((W.n : Int) + (r : Int)) (a : Int) else 0) = - sm (List.range W.n) (fun a => if (r : Int) ∈ W.row a then g (a : Int) ((W.n : Int) + (r : Int)) else 0) := by
    rw [← sm_neg]
    refine sm_congr fun a _ => ?_
    by_cases h : (r : Int) ∈ W.row a
    · rw [if_pos h, if_pos (decide_eq_true h)]
      exact F.anti _ _
    · rw [if_neg h, if_neg (by simpa using h)]
      rfl
  rw [e] at c
  omega
theorem cntA_of {a : Nat} (ha : a < W.n) : cntA (pairsOf W g) (a : Int) = sm (W.row a) (fun r => g (a : Int) ((W.n : Int) + r)) := by
  rw [cntA_sm]
  unfold pairsOf
  rw [sm_flatMap]
  have : sm (List.range W.n) (fun b => sm (((W.row b).filter fun r => decide (0 < g (b : Int) ((W.n : Int) + r))).map fun r => ((b : Int), r)) (fun p => if p.1 = (a : Int) then 1 else 0)) = sm (List.range W.n) (fun b => if b = a then sm (W.row b) (fun r => g (b : Int) ((W.n : Int) + r)) else 0) := sm_congr fun b hb => by
    have hb := List.mem_range.mp hb
    rw [sm_map, sm_filter]
    by_cases e : b = a
    · rw [if_pos e]
      refine sm_congr fun r hr => ?_
      have h1 := g_pair ok F hb hr
      by_cases h : 0 < g (b : Int) ((W.n : Int) + r)
      · rw [if_pos (decide_eq_true h), if_pos (by rw [e])]
        omega
      · rw [if_neg (by simpa using h)]
        omega
    · rw [if_neg e]
      refine sm_zero fun r _ => ?_
      have h5 : ¬ ((b : Int) = (a : Int)) := by omega
      rw [if_neg h5]
      split <;> rfl
  rw [this, sm_delta List.nodup_range (List.mem_range.mpr ha)]
theorem cntR_of {r : Nat} (hr : r < W.m) : cntR (pairsOf W g) (r : Int) = sm (List.range W.n) (fun a => if (r : Int) ∈ W.row a then g (a : Int) ((W.n : Int) + (r : Int)) else 0) := by
  rw [cntR_sm]
  unfold pairsOf
  rw [sm_flatMap]
  refine sm_congr fun a ha => ?_
  have ha := List.mem_range.mp ha
  rw [sm_map, sm_filter]
  have e1 : sm (W.row a) (fun q => if decide (0 < g (a : Int) ((W.n : Int) + q)) = true then (if q = (r : Int) then (1 : Int) else 0) else 0) = sm (W.row a) (fun q => if q = (r : Int) then g (a : Int) ((W.n : Int) + q) else 0) := sm_congr fun q hq => by
    have h1 := g_pair ok F ha hq
    by_cases e : q = (r : Int)
    · rw [if_pos e, if_pos e]
      by_cases h : 0 < g (a : Int) ((W.n : Int) + q)
      · rw [if_pos (decide_eq_true h)]; omega
      · rw [if_neg (by simpa using h)]; omega
    · rw [if_neg e, if_neg e]
      split <;> rfl
  show sm (W.row a) (fun q => if decide (0 < g (a : Int) ((W.n : Int) + q)) = true then (if q = (r : Int) then (1 : Int) else 0) else 0) = _
  rw [e1]
  by_cases h : (r : Int) ∈ W.row a
  · rw [if_pos h, sm_delta (ok.nd a) h]
  · rw [if_neg h, sm_delta_none h]
theorem len_of : ((pairsOf W g).length : Int) = sm (List.range W.n) (fun a => sm (W.row a) (fun r => g (a : Int) ((W.n : Int) + r))) := by
  rw [← sm_one]
  unfold pairsOf
  rw [sm_flatMap]
  refine sm_congr fun a ha => ?_
  have ha := List.mem_range.mp ha
  rw [sm_map, sm_filter]
  refine sm_congr fun r hr => ?_
  have h1 := g_pair ok F ha hr
  by_cases h : 0 < g (a : Int) ((W.n : Int) + r)
  · rw [if_pos (decide_eq_true h)]; omega
  · rw [if_neg (by simpa using h)]; omega
/-- the pairs of a flow keep the most counts; where it fills the least pipes, the least ones too -/
theorem flow_kept (hs : ∀ v : Int, 0 ≤ v → v < (W.n : Int) + (W.m : Int) → v ≠ s ∧ v ≠ t) (full : least = true → (∀ a, a < W.n → g (kE W + 1) (a : Int) = lowA W least a) ∧ ∀ r, r < W.m → g ((W.n : Int) + (r : Int)) (kE W + 2) = lowR W least r) :
    keptB W (pairsOf W g) least = true := by
  refine keptB_iff.mpr ⟨fun a ha => ?_, fun r hr => ?_⟩
  · obtain ⟨h1, h2⟩ := hs (a : Int) (by omega) (by omega)
    rw [cntA_of ok F ha, sum_a ok F ha h1 h2]
    have f1 := F.fits (kS W) (a : Int)
    have f2 := F.fits (kE W + 1) (a : Int)
    rw [cap_start_a ok ha] at f1
    rw [cap_low_a ok ha] at f2
    refine ⟨by omega, fun hl => ?_⟩
    have h3 := (full hl).1 a ha
    have h4 := nonneg_of F (x := kS W) (cap_a_start (least := least) ok ha)
    unfold lowA at h3
    rw [if_pos hl] at h3
    omega
  · obtain ⟨h1, h2⟩ := hs ((W.n : Int) + (r : Int)) (by omega) (by omega)
    rw [cntR_of ok F hr, sum_r ok F hr h1 h2]
    have f1 := F.fits ((W.n : Int) + (r : Int)) (kE W)
    have f2 := F.fits ((W.n : Int) + (r : Int)) (kE W + 2)
    rw [cap_room_end hr] at f1
    rw [cap_room_low ok hr] at f2
    refine ⟨by omega, fun hl => ?_⟩
    have h3 := (full hl).2 r hr
    have h4 := nonneg_of F (x := (W.n : Int) + (r : Int)) (cap_end_room (least := least) ok hr)
    unfold lowR at h3
    rw [if_pos hl] at h3
    omega
end flows
end Pm
end
section
/-! K22End: the worth of cuts as the program reckons it, and the plain law. -/
set_option autoImplicit false
set_option linter.all false
namespace Pm
variable {W : Wt} {least : Bool}
theorem cross_form (S : Int → Bool) : crossing (opsOf W least) S = sm (List.range W.n) (fun a =>
      (if (S (kS W) && !S (a : Int)) = true then (if least = true then W.ahi a - W.alo a else W.ahi a) else 0)
      + (if least = true ∧ 0 < W.alo a then (if (S (kE W + 1) && !S (a : Int)) = true then W.alo a else 0) + (if (S (kS W) && !S (kE W + 2)) = true then W.alo a else 0) else 0)
      + sm (W.row a) (fun r => if (S (a : Int) && !S ((W.n : Int) + r)) = true then 1 else 0))
    + sm (List.range W.m) (fun r => (if (S ((W.n : Int) + (r : Int)) && !S (kE W)) = true then (if least = true then W.rhi r - W.rlo r else W.rhi r) else 0)
      + (if least = true ∧ 0 < W.rlo r then (if (S ((W.n : Int) + (r : Int)) && !S (kE W + 2)) = true then W.rlo r else 0) + (if (S (kE W + 1) && !S (kE W)) = true then W.rlo r else 0) else 0))
    + (if least = true then (if (S (kE W) && !S (kS W)) = true then links W + must W least + 1 else 0) else 0) := by
  unfold crossing
  rw [sm_ops]
  congr 2
  · exact sm_congr fun a _ => sm_ask _ a
  · exact sm_congr fun r _ => sm_room _ r
theorem link_form (S : Int → Bool) : sm (List.range W.n) (fun a => sm (W.row a) (fun r => if (S (a : Int) && !S ((W.n : Int) + r)) = true then (1 : Int) else 0)) = linkX W S (fun r => S ((W.n : Int) + r)) := by
  unfold linkX
  refine sm_congr fun a _ => ?_
  by_cases h : S (a : Int) = true
  · rw [if_pos h]
    refine sm_congr fun r _ => ?_
    cases h2 : S ((W.n : Int) + r) <;> simp [h, h2]
  · rw [if_neg h]
    exact sm_zero fun r _ => by simp [h]
theorem cross_most (S : Int → Bool) (h1 : S (kS W) = true) (h2 : S (kE W) = false) : crossing (opsOf W false) S = cutW W S (fun r => S ((W.n : Int) + r)) := by
  rw [cross_form, sm_add, sm_add, link_form]
  have e1 : sm (List.range W.n) (fun a => if (S (kS W) && !S (a : Int)) = true then (if false = true then W.ahi a - W.alo a else W.ahi a) else 0) = sm (List.range W.n) (fun a => if S (a : Int) = true then 0 else W.ahi a) := sm_congr fun a _ => by
    cases h : S (a : Int) <;> simp [h1]
  have e2 : sm (List.range W.n) (fun a => if false = true ∧ 0 < W.alo a then (if (S (kE W + 1) && !S (a : Int)) = true then W.alo a else 0) + (if (S (kS W) && !S (kE W + 2)) = true then W.alo a else 0) else 0) = 0 := sm_zero fun a _ => if_neg fun z => by cases z.1
  have e3 : sm (List.range W.m) (fun r => (if (S ((W.n : Int) + (r : Int)) && !S (kE W)) = true then (if false = true then W.rhi r - W.rlo r else W.rhi r) else 0)
      + (if false = true ∧ 0 < W.rlo r then (if (S ((W.n : Int) + (r : Int)) && !S (kE W + 2)) = true then W.rlo r else 0) + (if (S (kE W + 1) && !S (kE W)) = true then W.rlo r else 0) else 0)) = sm (List.range W.m) (fun r => if S ((W.n : Int) + (r : Int)) = true then W.rhi r else 0) := sm_congr fun r _ => by
    cases h : S ((W.n : Int) + (r : Int)) <;> simp [h2]
  rw [e1, e2, e3, if_neg (by decide)]
  unfold cutW
  dsimp only
  omega
theorem must_sums : must W true = sm (List.range W.n) (fun a => if 0 < W.alo a then W.alo a else 0) + sm (List.range W.m) (fun r => if 0 < W.rlo r then W.rlo r else 0) := by
  unfold must mustA mustR
  congr 1
  · exact sm_congr fun a _ => by simp
  · exact sm_congr fun r _ => by simp
/-- a cut that lets by less than must go shows that bounds can't be kept -/
theorem cross_least (ok : W.Ok) (S : Int → Bool) (h1 : S (kE W + 1) = true) (h2 : S (kE W + 2) = false) (lt : crossing (opsOf W true) S < must W true) :
    highIn W S (fun r => S ((W.n : Int) + r)) < lowIn W S ∨ highOut W S (fun r => S ((W.n : Int) + r)) < lowOut W (fun r => S ((W.n : Int) + r)) := by
  rw [cross_form, sm_add, sm_add, link_form, must_sums] at lt
  simp only [h1, h2, true_and, if_true, Bool.true_and, Bool.not_false, Bool.and_true] at lt
  have hlink : 0 ≤ linkX W S (fun r => S ((W.n : Int) + r)) := sm_nonneg fun a _ => by
    split
    · exact sm_nonneg fun r _ => by split <;> decide
    · decide
  have nA : ∀ a ∈ List.range W.n, 0 ≤ W.alo a ∧ W.alo a ≤ W.ahi a := fun a ha => ok.ab a (List.mem_range.mp ha)
  have nR : ∀ r ∈ List.range W.m, 0 ≤ W.rlo r ∧ W.rlo r ≤ W.rhi r := fun r hr => ok.rb r (List.mem_range.mp hr)
  cases hs : S (kS W) <;> cases he : S (kE W)
  · -- neither
    left
    simp only [hs, he, Bool.false_and, Bool.not_false, Bool.and_true, Bool.false_eq_true, if_false, if_true] at lt
    have e1 : sm (List.range W.n) (fun a => if 0 < W.alo a then (if (!S (a : Int)) = true then W.alo a else 0) + 0 else 0) + lowIn W S = sm (List.range W.n) (fun a => if 0 < W.alo a then W.alo a else 0) := by
      unfold lowIn
      rw [← sm_add]
      refine sm_congr fun a ha => ?_
      have := nA a ha
      cases S (a : Int) <;> simp <;> omega
    have e2 : sm (List.range W.m) (fun r => (if S ((W.n : Int) + (r : Int)) = true then W.rhi r - W.rlo r else 0) + (if 0 < W.rlo r then (if S ((W.n : Int) + (r : Int)) = true then W.rlo r else 0) + W.rlo r else 0))
        = sm (List.range W.m) (fun r => if S ((W.n : Int) + (r : Int)) = true then W.rhi r else 0) + sm (List.range W.m) (fun r => if 0 < W.rlo r then W.rlo r else 0) := by
      rw [← sm_add]
      refine sm_congr fun r hr => ?_
      have := nR r hr
      cases S ((W.n : Int) + (r : Int)) <;> simp <;> split <;> omega
    have e0 : sm (List.range W.n) (fun _ => (0 : Int)) = 0 := sm_zero fun _ _ => rfl
    unfold highIn
    dsimp only
    omega
  · -- the end, not the start
    exfalso
    simp only [hs, he, Bool.false_and, Bool.not_false, Bool.not_true, Bool.and_false, Bool.and_true, Bool.false_eq_true, if_false, if_true, Bool.true_and] at lt
    have p1 : 0 ≤ sm (List.range W.n) (fun a => if 0 < W.alo a then (if (!S (a : Int)) = true then W.alo a else 0) + 0 else 0) := sm_nonneg fun a ha => by
      have := nA a ha
      split
      · split <;> omega
      · decide
    have p2 : 0 ≤ sm (List.range W.m) (fun r => (0 : Int) + (if 0 < W.rlo r then (if S ((W.n : Int) + (r : Int)) = true then W.rlo r else 0) + 0 else 0)) := sm_nonneg fun r hr => by
      have := nR r hr
      split
      · split <;> omega
      · decide
    have e0 : sm (List.range W.n) (fun _ => (0 : Int)) = 0 := sm_zero fun _ _ => rfl
    have hl := links_nonneg (W := W)
    have hm := must_sums (W := W)
    omega
  · -- the start, not the end
    exfalso
    simp only [hs, he, Bool.false_and, Bool.not_false, Bool.not_true, Bool.and_false, Bool.and_true, Bool.false_eq_true, if_false, if_true, Bool.true_and] at lt
    have p0 : 0 ≤ sm (List.range W.n) (fun a => if (!S (a : Int)) = true then W.ahi a - W.alo a else 0) := sm_nonneg fun a ha => by
      have := nA a ha
      split <;> omega
    have p1 : sm (List.range W.n) (fun a => if 0 < W.alo a then W.alo a else 0) ≤ sm (List.range W.n) (fun a => if 0 < W.alo a then (if (!S (a : Int)) = true then W.alo a else 0) + W.alo a else 0) := sm_le fun a ha => by
      have := nA a ha
      split
      · split <;> omega
      · decide
    have p2 : sm (List.range W.m) (fun r => if 0 < W.rlo r then W.rlo r else 0) ≤ sm (List.range W.m) (fun r => (if S ((W.n : Int) + (r : Int)) = true then W.rhi r - W.rlo r else 0) + (if 0 < W.rlo r then (if S ((W.n : Int) + (r : Int)) = true then W.rlo r else 0) + W.rlo r else 0)) := sm_le fun r hr => by
      have := nR r hr
      cases S ((W.n : Int) + (r : Int)) <;> simp <;> split <;> omega
    omega
  · -- both
    right
    simp only [hs, he, Bool.false_and, Bool.not_false, Bool.not_true, Bool.and_false, Bool.and_true, Bool.false_eq_true, if_false, if_true, Bool.true_and] at lt
    have e1 : sm (List.range W.n) (fun a => if (!S (a : Int)) = true then W.ahi a - W.alo a else 0) + sm (List.range W.n) (fun a => if 0 < W.alo a then (if (!S (a : Int)) = true then W.alo a else 0) + W.alo a else 0)
        = sm (List.range W.n) (fun a => if S (a : Int) = true then 0 else W.ahi a) + sm (List.range W.n) (fun a => if 0 < W.alo a then W.alo a else 0) := by
      rw [← sm_add, ← sm_add]
      refine sm_congr fun a ha => ?_
      have := nA a ha
      cases S (a : Int) <;> simp <;> split <;> omega
    have e2 : sm (List.range W.m) (fun r => (0 : Int) + (if 0 < W.rlo r then (if S ((W.n : Int) + (r : Int)) = true then W.rlo r else 0) + 0 else 0)) + lowOut W (fun r => S ((W.n : Int) + r)) = sm (List.range W.m) (fun r => if 0 < W.rlo r then W.rlo r else 0) := by
      unfold lowOut
      rw [← sm_add]
      refine sm_congr fun r hr => ?_
      have := nR r hr
      dsimp only
      by_cases h0 : 0 < W.rlo r
      · by_cases h3 : S ((W.n : Int) + (r : Int)) = true
        · simp only [if_pos h0, if_pos h3]; omega
        · simp only [if_pos h0, if_neg h3]; omega
      · by_cases h3 : S ((W.n : Int) + (r : Int)) = true
        · simp only [if_neg h0, if_pos h3]; omega
        · simp only [if_neg h0, if_neg h3]; omega
    unfold highOut
    omega

/-! ### as the program reckons it: cuts are lists of askers and of rooms -/
def linked (W : Wt) (A O : List Int) : Int := sm A (fun a => sm (W.row a.toNat) (fun r => if r ∈ O then 1 else 0))
def outs (k : Nat) (R : List Int) : List Int := (places k).filter fun r => decide (r ∉ R)
def cutWorth (W : Wt) (A R : List Int) : Int := sm (List.range W.n) (fun a => if (a : Int) ∈ A then 0 else W.ahi a) + sm R (fun r => W.rhi r.toNat) + linked W A (outs W.m R)
def checkB (W : Wt) (A R : List Int) : Bool :=
  !(decide (sm A (fun a => W.alo a.toNat) ≤ sm R (fun r => W.rhi r.toNat) + linked W A (outs W.m R)) && decide (sm (outs W.m R) (fun r => W.rlo r.toNat) ≤ sm (outs W.n A) (fun a => W.ahi a.toNat) + linked W A (outs W.m R)))
structure Sides (W : Wt) (A R : List Int) : Prop where
  na : A.Nodup
  nr : R.Nodup
  ia : ∀ a ∈ A, 0 ≤ a ∧ a < (W.n : Int)
  ir : ∀ r ∈ R, 0 ≤ r ∧ r < (W.m : Int)
def inq (A : List Int) : Int → Bool := fun a => decide (a ∈ A)
theorem sm_side {k : Nat} {A : List Int} (na : A.Nodup) (ia : ∀ a ∈ A, 0 ≤ a ∧ a < (k : Int)) (f : Int → Int) : sm A f = sm (List.range k) (fun a => if inq A (a : Int) = true then f (a : Int) else 0) := by
  have h1 : sm (places k) (fun a => if inq A a = true then f a else 0) = sm A (fun a => if inq A a = true then f a else 0) := sm_support (nodup_places k) na (fun x hx => mem_places.mpr (ia x hx)) fun x _ hx => if_neg (by unfold inq; simpa using hx)
  have h2 : sm A (fun a => if inq A a = true then f a else 0) = sm A f := sm_congr fun a ha => if_pos (by unfold inq; simpa using ha)
  rw [← h2, ← h1]
  unfold places
  rw [sm_map]
theorem sm_outs {k : Nat} (A : List Int) (f : Int → Int) : sm (outs k A) f = sm (List.range k) (fun a => if inq A (a : Int) = true then 0 else f (a : Int)) := by
  unfold outs places
  rw [sm_filter, sm_map]
  refine sm_congr fun a _ => ?_
  unfold inq
  by_cases h : (a : Int) ∈ A
  · simp [h]
  · simp [h]
theorem mem_outs {k : Nat} {R : List Int} {r : Int} (h : 0 ≤ r ∧ r < (k : Int)) : r ∈ outs k R ↔ r ∉ R := by
  unfold outs
  rw [List.mem_filter]
  constructor
  · rintro ⟨_, h2⟩; simpa using h2
  · intro h2; exact ⟨mem_places.mpr h, by simpa using h2⟩
theorem linked_eq (ok : W.Ok) {A R : List Int} (sd : Sides W A R) : linked W A (outs W.m R) = linkX W (inq A) (inq R) := by
  unfold linked linkX
  rw [sm_side sd.na sd.ia]
  refine sm_congr fun a _ => ?_
  by_cases h : inq A (a : Int) = true
  · rw [if_pos h, if_pos h]
    show sm (W.row ((a : Int).toNat)) _ = _
    rw [show ((a : Int).toNat) = a from by omega]
    refine sm_congr fun r hr => ?_
    have := ok.inR a r hr
    by_cases h2 : r ∈ R
    · rw [if_neg (fun z => (mem_outs this).mp z h2), if_pos (by unfold inq; simpa using h2)]
    · rw [if_pos ((mem_outs this).mpr h2), if_neg (by unfold inq; simpa using h2)]
  · rw [if_neg h, if_neg h]
theorem cutWorth_eq (ok : W.Ok) {A R : List Int} (sd : Sides W A R) : cutWorth W A R = cutW W (inq A) (inq R) := by
  unfold cutWorth cutW
  rw [linked_eq ok sd, sm_side sd.nr sd.ir]
  congr 2
  · refine sm_congr fun a _ => ?_
    unfold inq
    by_cases h : (a : Int) ∈ A <;> simp [h]
theorem checkB_eq (ok : W.Ok) {A R : List Int} (sd : Sides W A R) : checkB W A R = !(decide (lowIn W (inq A) ≤ highIn W (inq A) (inq R)) && decide (lowOut W (inq R) ≤ highOut W (inq A) (inq R))) := by
  unfold checkB lowIn highIn lowOut highOut
  rw [linked_eq ok sd, sm_side sd.nr sd.ir, sm_side sd.na sd.ia, sm_outs, sm_outs]
  rfl
/-- the sides of a set of places -/
def sideA (W : Wt) (S : Int → Bool) : List Int := (places W.n).filter S
def sideR (W : Wt) (S : Int → Bool) : List Int := (places W.m).filter fun r => S ((W.n : Int) + r)
theorem sides_of (S : Int → Bool) : Sides W (sideA W S) (sideR W S) where
  na := (nodup_places _).sublist List.filter_sublist
  nr := (nodup_places _).sublist List.filter_sublist
  ia := fun a ha => mem_places.mp (List.mem_filter.mp ha).1
  ir := fun r hr => mem_places.mp (List.mem_filter.mp hr).1
theorem inq_sideA (S : Int → Bool) {a : Nat} (ha : a < W.n) : inq (sideA W S) (a : Int) = S (a : Int) := by
  unfold inq sideA
  rw [Bool.eq_iff_iff, decide_eq_true_iff, List.mem_filter]
  exact ⟨fun h => h.2, fun h => ⟨mem_places.mpr (by omega), h⟩⟩
theorem inq_sideR (S : Int → Bool) {r : Int} (hr : 0 ≤ r ∧ r < (W.m : Int)) : inq (sideR W S) r = S ((W.n : Int) + r) := by
  unfold inq sideR
  rw [Bool.eq_iff_iff, decide_eq_true_iff, List.mem_filter]
  exact ⟨fun h => h.2, fun h => ⟨mem_places.mpr hr, h⟩⟩
theorem linkX_congr (ok : W.Ok) {qa qa' qr qr' : Int → Bool} (h1 : ∀ a, a < W.n → qa (a : Int) = qa' (a : Int)) (h2 : ∀ r : Int, 0 ≤ r ∧ r < (W.m : Int) → qr r = qr' r) : linkX W qa qr = linkX W qa' qr' := by
  unfold linkX
  refine sm_congr fun a ha => ?_
  rw [h1 a (List.mem_range.mp ha)]
  by_cases h : qa' (a : Int) = true
  · rw [if_pos h, if_pos h]
    exact sm_congr fun r hr => by rw [h2 r (ok.inR a r hr)]
  · rw [if_neg h, if_neg h]
theorem sums_congr (ok : W.Ok) {qa qa' qr qr' : Int → Bool} (h1 : ∀ a, a < W.n → qa (a : Int) = qa' (a : Int)) (h2 : ∀ r : Int, 0 ≤ r ∧ r < (W.m : Int) → qr r = qr' r) :
    cutW W qa qr = cutW W qa' qr' ∧ lowIn W qa = lowIn W qa' ∧ lowOut W qr = lowOut W qr' ∧ highIn W qa qr = highIn W qa' qr' ∧ highOut W qa qr = highOut W qa' qr' := by
  have e1 : sm (List.range W.n) (fun a => if qa (a : Int) = true then 0 else W.ahi a) = sm (List.range W.n) (fun a => if qa' (a : Int) = true then 0 else W.ahi a) := sm_congr fun a ha => by rw [h1 a (List.mem_range.mp ha)]
  have e2 : sm (List.range W.m) (fun r => if qr (r : Int) = true then W.rhi r else 0) = sm (List.range W.m) (fun r => if qr' (r : Int) = true then W.rhi r else 0) := sm_congr fun r hr => by rw [h2 r (by have := List.mem_range.mp hr; omega)]
  have e3 := linkX_congr ok h1 h2
  refine ⟨?_, ?_, ?_, ?_, ?_⟩
  · unfold cutW; rw [e1, e2, e3]
  · exact sm_congr fun a ha => by rw [h1 a (List.mem_range.mp ha)]
  · exact sm_congr fun r hr => by rw [h2 r (by have := List.mem_range.mp hr; omega)]
  · unfold highIn; rw [e2, e3]
  · unfold highOut; rw [e1, e3]
/-! ### what the defs tell, and the law's facts of it -/
/-- a flow that can't grow, and the closed set that shows it -/
structure Full (W : Wt) (least : Bool) (s t : Int) (g : Int → Int → Int) (whole : Int) (S : Int → Bool) : Prop where
  fl : Flow (VV W) (opsOf W least) s t g whole
  hs : S s = true
  ht : S t = false
  cl : Closed (VV W) (opsOf W least) g S
def MostR (W : Wt) (P : Lot) : Prop := ∃ g whole S, Full W false (kS W) (kE W) g whole S ∧ P = pairsOf W g
def CutR (W : Wt) (A R : List Int) : Prop := ∃ g whole S, Full W false (kS W) (kE W) g whole S ∧ A = sideA W S ∧ R = sideR W S
def LeastR (W : Wt) (o : Option Lot) : Prop := ∃ g whole S, Full W true (kE W + 1) (kE W + 2) g whole S ∧ o = if whole < must W true then none else some (pairsOf W g)
def ShortR (W : Wt) (o : Option (List Int × List Int)) : Prop := ∃ g whole S, Full W true (kE W + 1) (kE W + 2) g whole S ∧ o = if must W true ≤ whole then none else some (sideA W S, sideR W S)
theorem start_V : kS W ∈ VV W := mem_V.mpr (by simp only [kS]; omega)
theorem low_V : kE W + 1 ∈ VV W := mem_V.mpr (by simp only [kE]; omega)
theorem full_most (ok : W.Ok) {g : Int → Int → Int} {whole : Int} {S : Int → Bool} (F : Full W false (kS W) (kE W) g whole S) :
    keptB W (pairsOf W g) false = true ∧ ((pairsOf W g).length : Int) = whole ∧ whole = cutWorth W (sideA W S) (sideR W S) := by
  refine ⟨flow_kept ok F.fl (fun v h1 h2 => ⟨by simp only [kS]; omega, by simp only [kE]; omega⟩) (fun z => by cases z), ?_, ?_⟩
  · rw [len_of ok F.fl, ← F.fl.val]
    have e1 : sm (List.range W.n) (fun a => sm (W.row a) (fun r => g (a : Int) ((W.n : Int) + r))) = sm (List.range W.n) (fun a => g (kS W) (a : Int)) := sm_congr fun a ha => by
      have ha := List.mem_range.mp ha
      rw [sum_a ok F.fl ha (by simp only [kS]; omega) (by simp only [kE]; omega)]
      have h1 := F.fl.fits (kE W + 1) (a : Int)
      have h2 := nonneg_of F.fl (x := kE W + 1) (cap_a_low (least := false) ok ha)
      rw [cap_low_a ok ha] at h1
      unfold lowA at h1
      rw [if_neg (by decide)] at h1
      omega
    rw [e1]
    have e2 : rowsum (VV W) g (kS W) = sm (places W.n) (fun y => g (kS W) y) := sm_support (nV W) (nodup_places _) (fun x hx => mem_V.mpr (by have := mem_places.mp hx; omega)) fun x hx hn => F.fl.only _ _ (touch_none (by
      have hx := mem_V.mp hx
      have hn : ¬ (0 ≤ x ∧ x < (W.n : Int)) := fun z => hn (mem_places.mpr z)
      refine all_ops (fun b hb => ?_) (fun b hb z _ => by cases z) (fun b hb z _ => by cases z) (fun b hb r hr => ?_) (fun r hr => ?_) (fun r hr z _ => by cases z) (fun r hr z _ => by cases z) fun z => by cases z
      case refine_2 => have := ok.inR b r hr; simp only [kE, kS] at *; omega
      all_goals (simp only [kE, kS] at *; omega)))
    rw [e2]
    unfold places
    rw [sm_map]
  · rw [cutWorth_eq ok (sides_of S), flow_cut (nV W) start_V (ops_ends ok) F.fl S F.hs F.ht F.cl, cross_most S F.hs F.ht]
    exact ((sums_congr ok (fun a ha => inq_sideA S ha) (fun r hr => inq_sideR S hr)).1).symm
theorem full_least (ok : W.Ok) {g : Int → Int → Int} {whole : Int} {S : Int → Bool} (F : Full W true (kE W + 1) (kE W + 2) g whole S) :
    (must W true ≤ whole → keptB W (pairsOf W g) true = true) ∧ (whole < must W true → checkB W (sideA W S) (sideR W S) = true) := by
  have nst : ∀ v : Int, 0 ≤ v → v < (W.n : Int) + (W.m : Int) → v ≠ kE W + 1 ∧ v ≠ kE W + 2 := fun v h1 h2 => ⟨by simp only [kE]; omega, by simp only [kE]; omega⟩
  refine ⟨fun hm => flow_kept ok F.fl nst fun _ => ?_, fun hl => ?_⟩
  · -- what leaves the start in all
    have ends := ops_ends (W := W) (least := true) ok
    have outC : sm (VV W) (fun y => cap (opsOf W true) (kE W + 1) y) = must W true := by
      rw [← out_must ok]
      unfold cap
      rw [sm_swap]
      refine sm_congr fun o ho => ?_
      have e : sm (VV W) (fun y => if o.1 = kE W + 1 ∧ o.2.1 = y then o.2.2 else 0) = sm (VV W) (fun y => if y = o.2.1 then (if o.1 = kE W + 1 then o.2.2 else 0) else 0) := sm_congr fun y _ => by
        by_cases h1 : y = o.2.1
        · rw [if_pos h1]
          by_cases h2 : o.1 = kE W + 1
          · rw [if_pos ⟨h2, h1.symm⟩, if_pos h2]
          · rw [if_neg fun z => h2 z.1, if_neg h2]
        · rw [if_neg fun z => h1 z.2.symm, if_neg h1]
      rw [e, sm_delta (nV W) (ends o ho).2]
    have inC : sm (VV W) (fun x => cap (opsOf W true) x (kE W + 2)) = must W true := by
      rw [← in_must ok]
      unfold cap
      rw [sm_swap]
      refine sm_congr fun o ho => ?_
      have e : sm (VV W) (fun x => if o.1 = x ∧ o.2.1 = kE W + 2 then o.2.2 else 0) = sm (VV W) (fun x => if x = o.1 then (if o.2.1 = kE W + 2 then o.2.2 else 0) else 0) := sm_congr fun x _ => by
        by_cases h1 : x = o.1
        · rw [if_pos h1]
          by_cases h2 : o.2.1 = kE W + 2
          · rw [if_pos ⟨h1.symm, h2⟩, if_pos h2]
          · rw [if_neg fun z => h2 z.2, if_neg h2]
        · rw [if_neg fun z => h1 z.1.symm, if_neg h1]
      rw [e, sm_delta (nV W) (ends o ho).1]
    have tV : kE W + 2 ∈ VV W := mem_V.mpr (by simp only [kE]; omega)
    -- all rows together are nought
    have tot : sm (VV W) (fun v => rowsum (VV W) g v) = 0 := by
      have h : sm (VV W) (fun v => rowsum (VV W) g v) = - sm (VV W) (fun v => rowsum (VV W) g v) := by
        unfold rowsum
        conv => lhs; rw [sm_swap]
        rw [← sm_neg]
        refine sm_congr fun x _ => ?_
        rw [← sm_neg]
        exact sm_congr fun y _ => F.fl.anti y x
      omega
    have tot2 : sm (VV W) (fun v => rowsum (VV W) g v) = rowsum (VV W) g (kE W + 1) + rowsum (VV W) g (kE W + 2) := by
      have : sm (VV W) (fun v => rowsum (VV W) g v) = sm [kE W + 1, kE W + 2] (fun v => rowsum (VV W) g v) := sm_support (nV W) (by simp) (fun x hx => by
        rcases List.mem_cons.mp hx with e | hx
        · rw [e]; exact low_V
        · rw [List.mem_singleton.mp hx]; exact tV) fun x hx hn => F.fl.cons x hx (fun e => hn (by rw [e]; simp)) (fun e => hn (by rw [e]; simp))
      rw [this]
      show rowsum (VV W) g (kE W + 1) + (rowsum (VV W) g (kE W + 2) + 0) = _
      omega
    have hval := F.fl.val
    have inG : sm (VV W) (fun x => g x (kE W + 2)) = whole := by
      have : sm (VV W) (fun x => g x (kE W + 2)) = - rowsum (VV W) g (kE W + 2) := by
        unfold rowsum
        rw [← sm_neg]
        exact sm_congr fun x _ => F.fl.anti _ _
      omega
    have outG : sm (VV W) (fun y => g (kE W + 1) y) = whole := hval
    have each : ∀ (f h : Int → Int), (∀ y, f y ≤ h y) → sm (VV W) h ≤ sm (VV W) f → ∀ y ∈ VV W, f y = h y := fun f h hle hs y hy => by
      have h1 : 0 ≤ sm (VV W) (fun y => h y - f y) := sm_nonneg fun y _ => by have := hle y; omega
      have h2 := sm_mem_le (l := VV W) (f := fun y => h y - f y) (fun y _ => by have := hle y; omega) hy
      rw [sm_sub] at h1 h2
      have := hle y
      omega
    have fullOut := each (fun y => g (kE W + 1) y) (fun y => cap (opsOf W true) (kE W + 1) y) (fun y => F.fl.fits _ _) (by omega)
    have fullIn := each (fun x => g x (kE W + 2)) (fun x => cap (opsOf W true) x (kE W + 2)) (fun y => F.fl.fits _ _) (by omega)
    refine ⟨fun a ha => ?_, fun r hr => ?_⟩
    · rw [← cap_low_a ok ha]
      exact fullOut (a : Int) (mem_V.mpr (by omega))
    · rw [← cap_room_low ok hr]
      exact fullIn ((W.n : Int) + (r : Int)) (mem_V.mpr (by omega))
  · have hw := flow_cut (nV W) low_V (ops_ends ok) F.fl S F.hs F.ht F.cl
    rw [hw] at hl
    have h := cross_least ok S F.hs F.ht hl
    obtain ⟨_, c2, c3, c4, c5⟩ := sums_congr ok (W := W) (qa := inq (sideA W S)) (qa' := S) (qr := inq (sideR W S)) (qr' := fun r => S ((W.n : Int) + r)) (fun a ha => inq_sideA S ha) (fun r hr => inq_sideR S hr)
    rw [checkB_eq ok (sides_of S), c2, c3, c4, c5]
    rcases h with h | h
    · rw [decide_eq_false (by omega)]; rfl
    · rw [decide_eq_false (p := lowOut W _ ≤ _) (by omega), Bool.and_false]; rfl
/-- best: as many pairs as the most counts let by, by trying all -/
structure Best (W : Wt) (best : Int) : Prop where
  some_ : ∃ l ∈ allLots (pairsAll W), keptB W l false = true ∧ (l.length : Int) = best
  most_ : ∀ l ∈ allLots (pairsAll W), keptB W l false = true → (l.length : Int) ≤ best
theorem best_cut (ok : W.Ok) {best : Int} (B : Best W best) {A R : List Int} (sd : Sides W A R) : best ≤ cutWorth W A R := by
  obtain ⟨l, hl, hk, e⟩ := B.some_
  rw [cutWorth_eq ok sd, ← e]
  exact weak ok (mem_allLots.mp hl) hk _ _
theorem law_most (ok : W.Ok) {best : Int} (B : Best W best) {P : Lot} (h : MostR W P) : P ∈ allLots (pairsAll W) ∧ (P.length : Int) = best ∧ keptB W P false = true := by
  obtain ⟨g, whole, S, F, rfl⟩ := h
  obtain ⟨h1, h2, h3⟩ := full_most ok F
  have hin : pairsOf W g ∈ allLots (pairsAll W) := mem_allLots.mpr (pairsOf_sub g)
  have h4 := B.most_ _ hin h1
  have h5 := best_cut ok B (sides_of S)
  exact ⟨hin, by omega, h1⟩
theorem law_cut (ok : W.Ok) {best : Int} (B : Best W best) {A R : List Int} (h : CutR W A R) : cutWorth W A R = best := by
  obtain ⟨g, whole, S, F, rfl, rfl⟩ := h
  obtain ⟨h1, h2, h3⟩ := full_most ok F
  have h4 := B.most_ _ (mem_allLots.mpr (pairsOf_sub g)) h1
  have h5 := best_cut ok B (sides_of S)
  omega
def goodLots (W : Wt) : List Lot := (allLots (pairsAll W)).filter fun l => keptB W l true
theorem check_good (ok : W.Ok) {A R : List Int} (sd : Sides W A R) (h : checkB W A R = true) : goodLots W = [] := by
  refine List.filter_eq_nil_iff.mpr fun l hl hk => ?_
  have := weak_low ok (mem_allLots.mp hl) hk (inq A) (inq R)
  rw [checkB_eq ok sd, decide_eq_true this.1, decide_eq_true this.2] at h
  cases h
theorem law_least (ok : W.Ok) {o : Option Lot} (h : LeastR W o) : (o = none → goodLots W = []) ∧ ∀ P, o = some P → P ∈ goodLots W := by
  obtain ⟨g, whole, S, F, rfl⟩ := h
  obtain ⟨h1, h2⟩ := full_least ok F
  by_cases hw : whole < must W true
  · rw [if_pos hw]
    exact ⟨fun _ => check_good ok (sides_of S) (h2 hw), fun P e => (nomatch e)⟩
  · rw [if_neg hw]
    exact ⟨fun e => (nomatch e), fun P e => by
      cases e
      exact List.mem_filter.mpr ⟨mem_allLots.mpr (pairsOf_sub g), h1 (by omega)⟩⟩
theorem law_short (ok : W.Ok) {o : Option (List Int × List Int)} (h : ShortR W o) : (o = none → goodLots W ≠ []) ∧ ∀ A R, o = some (A, R) → goodLots W = [] ∧ checkB W A R = true ∧ Sides W A R := by
  obtain ⟨g, whole, S, F, rfl⟩ := h
  obtain ⟨h1, h2⟩ := full_least ok F
  by_cases hw : must W true ≤ whole
  · rw [if_pos hw]
    refine ⟨fun _ e => ?_, fun A R e => (nomatch e)⟩
    have : pairsOf W g ∈ goodLots W := List.mem_filter.mpr ⟨mem_allLots.mpr (pairsOf_sub g), h1 hw⟩
    rw [e] at this; cases this
  · rw [if_neg hw]
    refine ⟨fun e => (nomatch e), fun A R e => ?_⟩
    cases e
    have h3 := h2 (by omega)
    exact ⟨check_good ok (sides_of S) h3, h3, sides_of S⟩
end Pm
end
section
set_option linter.all false
/-! K22Bfs: the search for a way, in plain lists. -/
namespace Pm
/-- what the search has found: places in order, each with the place it was come from -/
abbrev Ent := Int × Option Int
abbrev keysOf (ks : List Ent) : List Int := ks.map (·.1)
structure Bfs (V : List Int) (mo : Int → Int → Prop) (s : Int) (ks : List Ent) (dn : Nat) : Prop where
  head : ks[0]? = some (s, none)
  nd : (keysOf ks).Nodup
  inV : ∀ x ∈ keysOf ks, x ∈ V
  pred : ∀ i y o, ks[i]? = some (y, o) → i ≠ 0 → ∃ x j, o = some x ∧ j < i ∧ (keysOf ks)[j]? = some x ∧ mo x y
  le : dn ≤ ks.length
  closed : ∀ i x, i < dn → (keysOf ks)[i]? = some x → ∀ y ∈ V, mo x y → y ∈ keysOf ks
variable {V : List Int} {mo : Int → Int → Prop} {s : Int} {ks : List Ent} {dn : Nat}
theorem bfs_start (hs : s ∈ V) : Bfs V mo s [(s, none)] 0 := by
  refine ⟨rfl, by simp, fun x hx => ?_, fun i y o h hi => ?_, Nat.zero_le _, fun i x h => absurd h (Nat.not_lt_zero _)⟩
  · simp at hx; rw [hx]; exact hs
  · cases i with
    | zero => exact absurd rfl hi
    | succ i => simp at h
theorem len_keys (ks : List Ent) : (keysOf ks).length = ks.length := List.length_map _
theorem bfs_add (b : Bfs V mo s ks dn) {x y : Int} (hx : (keysOf ks)[dn]? = some x) (hy : y ∈ V) (h : mo x y) (hn : y ∉ keysOf ks) : Bfs V mo s (ks ++ [(y, some x)]) dn := by
  have hlt : dn < ks.length := by rw [← len_keys]; exact (List.getElem?_eq_some_iff.mp hx).1
  have hk : keysOf (ks ++ [(y, some x)]) = keysOf ks ++ [y] := by unfold keysOf; rw [List.map_append]; rfl
  have old : ∀ {j : Nat} {z : Int}, (keysOf ks)[j]? = some z → (keysOf (ks ++ [(y, some x)]))[j]? = some z := fun {j z} e => by
    rw [hk, List.getElem?_append_left (List.getElem?_eq_some_iff.mp e).1]; exact e
  refine ⟨?_, ?_, fun z hz => ?_, fun i z o e hi => ?_, by rw [List.length_append]; have := b.le; omega, fun i z hi e w hw hm => ?_⟩
  · rw [List.getElem?_append_left (by omega)]; exact b.head
  · rw [hk, List.nodup_append]
    refine ⟨b.nd, by simp, fun a ha c hc e => ?_⟩
    rw [List.mem_singleton.mp hc] at e
    exact hn (e ▸ ha)
  · rw [hk] at hz
    rcases List.mem_append.mp hz with hz | hz
    · exact b.inV z hz
    · rw [List.mem_singleton.mp hz]; exact hy
  · rcases Nat.lt_trichotomy i ks.length with h1 | h1 | h1
    · rw [List.getElem?_append_left h1] at e
      obtain ⟨x', j, e1, e2, e3, e4⟩ := b.pred i z o e hi
      exact ⟨x', j, e1, e2, old e3, e4⟩
    · subst h1
      have : (z, o) = (y, some x) := by simpa using e.symm
      cases this
      exact ⟨x, dn, rfl, hlt, old hx, h⟩
    · rw [List.getElem?_eq_none (by rw [List.length_append, List.length_singleton]; omega)] at e; cases e
  · have hil : i < (keysOf ks).length := by rw [len_keys]; omega
    rw [hk, List.getElem?_append_left hil] at e
    rw [hk]
    exact List.mem_append_left _ (b.closed i z hi e w hw hm)
theorem bfs_done (b : Bfs V mo s ks dn) {x : Int} (hx : (keysOf ks)[dn]? = some x) (h : ∀ y ∈ V, mo x y → y ∈ keysOf ks) : Bfs V mo s ks (dn + 1) := by
  have hlt : dn < ks.length := by rw [← len_keys]; exact (List.getElem?_eq_some_iff.mp hx).1
  refine ⟨b.head, b.nd, b.inV, b.pred, hlt, fun i z hi e w hw hm => ?_⟩
  by_cases c : i < dn
  · exact b.closed i z c e w hw hm
  · have : i = dn := by omega
    subst this
    rw [hx] at e
    cases e
    exact h w hw hm
theorem nodup_sub_len {α : Type} [DecidableEq α] : ∀ {l r : List α}, l.Nodup → (∀ x ∈ l, x ∈ r) → l.length ≤ r.length
  | [], r, _, _ => Nat.zero_le _
  | a :: l, r, nd, h => by
    obtain ⟨h1, h2⟩ := List.nodup_cons.mp nd
    have ha : a ∈ r := h a List.mem_cons_self
    have h3 : ∀ x ∈ l, x ∈ r.erase a := fun x hx => (List.mem_erase_of_ne (fun e : x = a => h1 (by rw [← e]; exact hx))).mpr (h x (List.mem_cons_of_mem _ hx))
    have h4 := nodup_sub_len h2 h3
    have h5 := List.length_erase_of_mem ha
    have h6 : 0 < r.length := List.length_pos_of_mem ha
    rw [List.length_cons]
    omega
theorem bfs_len (b : Bfs V mo s ks dn) : ks.length ≤ V.length := by
  rw [← len_keys]
  exact nodup_sub_len b.nd b.inV
/-- where the search ends: closed -/
theorem bfs_closed {ops : List Op} {g : Int → Int → Int} (b : Bfs V (fun x y => more ops g x y) s ks ks.length) : Closed V ops g (fun x => decide (x ∈ keysOf ks)) := fun x hx y hy h1 h2 => by
  have h1 := of_decide_eq_true h1
  obtain ⟨i, hi⟩ := List.mem_iff_getElem?.mp h1
  have hlt : i < ks.length := by rw [← len_keys]; exact (List.getElem?_eq_some_iff.mp hi).1
  exact decide_eq_true (b.closed i x hlt hi y hy h2)
theorem bfs_s (b : Bfs V mo s ks dn) : s ∈ keysOf ks := List.mem_map.mpr ⟨(s, none), List.mem_of_getElem? b.head, rfl⟩
/-! the way back -/
/-- w goes from the place at i to the end t -/
structure Back (mo : Int → Int → Prop) (ks : List Ent) (t : Int) (i : Nat) (w : List Int) : Prop where
  is_ : ∃ is : List Nat, is.Pairwise (· < ·) ∧ is.head? = some i ∧ is.map (fun j => (keysOf ks)[j]?) = w.map some
  last : w.getLast? = some t
  goes : ∀ p ∈ steps w, mo p.1 p.2
theorem back_start {t : Int} {i : Nat} (h : (keysOf ks)[i]? = some t) : Back mo ks t i [t] :=
  ⟨⟨[i], List.pairwise_singleton _ _, rfl, by rw [List.map_cons, List.map_cons, h]; rfl⟩, rfl, fun p hp => by simp [steps] at hp⟩
theorem back_head {t : Int} {i : Nat} {w : List Int} (b : Back mo ks t i w) : ∃ c r, w = c :: r ∧ (keysOf ks)[i]? = some c := by
  obtain ⟨is, _, h1, h2⟩ := b.is_
  cases is with
  | nil => simp at h1
  | cons j is =>
    cases w with
    | nil => simp at h2
    | cons c r =>
      have h1 : j = i := by simpa using h1
      subst h1
      rw [List.map_cons, List.map_cons] at h2
      exact ⟨c, r, rfl, (List.cons.inj h2).1⟩
theorem back_step {t : Int} {i j : Nat} {x c : Int} {r : List Int} (b : Back mo ks t i (c :: r)) (hj : j < i) (hx : (keysOf ks)[j]? = some x) (hm : mo x c) : Back mo ks t j (x :: c :: r) := by
  obtain ⟨is, hp, h1, h2⟩ := b.is_
  refine ⟨⟨j :: is, List.pairwise_cons.mpr ⟨fun k hk => ?_, hp⟩, rfl, by rw [List.map_cons, List.map_cons, h2, hx]⟩, by rw [List.getLast?_cons_cons]; exact b.last, fun p hp => ?_⟩
  · cases is with
    | nil => simp at hk
    | cons a is =>
      have : a = i := by simpa using h1
      subst this
      rcases List.mem_cons.mp hk with e | hk
      · rw [e]; exact hj
      · exact Nat.lt_trans hj ((List.pairwise_cons.mp hp).1 k hk)
  · rw [steps_two] at hp
    rcases List.mem_cons.mp hp with e | hp
    · rw [e]; exact hm
    · exact b.goes p hp
theorem nodup_of_map {α β : Type} {f : α → β} : ∀ {l : List α}, (l.map f).Nodup → l.Nodup
  | [], _ => List.nodup_nil
  | a :: l, h => by
    obtain ⟨h1, h2⟩ := List.nodup_cons.mp h
    exact List.nodup_cons.mpr ⟨fun z => h1 (List.mem_map.mpr ⟨a, z, rfl⟩), nodup_of_map h2⟩
theorem back_way {ops : List Op} {g : Int → Int → Int} {t : Int} {w : List Int} (b : Bfs V (fun x y => more ops g x y) s ks dn) (B : Back (fun x y => more ops g x y) ks t 0 w) : Way V ops g s t w := by
  obtain ⟨is, hp, h1, h2⟩ := B.is_
  obtain ⟨c, r, e, hc⟩ := back_head B
  have hs : c = s := by
    have := b.head
    unfold keysOf at hc
    rw [List.getElem?_map, this] at hc
    exact (Option.some.inj hc).symm
  have inK : ∀ x ∈ w, x ∈ keysOf ks := fun x hx => by
    have : some x ∈ w.map some := List.mem_map.mpr ⟨x, hx, rfl⟩
    rw [← h2] at this
    obtain ⟨j, _, hj⟩ := List.mem_map.mp this
    exact List.mem_of_getElem? hj
  refine ⟨?_, fun x hx => b.inV x (inK x hx), by rw [e, hs]; rfl, B.last, B.goes⟩
  have h3 : (w.map some).Nodup := by
    rw [← h2]
    refine nodup_map_inj (fun a ha c hc e => ?_) (List.Pairwise.imp (fun h => Nat.ne_of_lt h) hp)
    have hm : (keysOf ks)[a]? ∈ w.map some := by rw [← h2]; exact List.mem_map.mpr ⟨a, ha, rfl⟩
    obtain ⟨x, _, hx⟩ := List.mem_map.mp hm
    exact (List.getElem?_inj (List.getElem?_eq_some_iff.mp hx.symm).1 b.nd).mp e
  exact nodup_of_map h3
end Pm
end
section
set_option Elab.async false
set_option linter.all false
set_option maxRecDepth 100000
set_option maxHeartbeats 4000000
/-! K22GenA: the frame of a generator expression, its sleep, its consumers. -/
namespace K22
open PySem PySem.Spec PyProof.Rows L2 NdefX
/-- while the generator sleeps only its consumer's own records (at Ss) may turn -/
structure Doze (Ss : List Addr) (s s' : Shared) : Prop where
  os : s'.os = s.os
  bare : AllBare s'.gens
  keep : ∀ b o, b ∉ Ss → s.heap.get? b = some o → s'.heap.get? b = some o
  there : ∀ b ∈ Ss, ∃ o, s'.heap.get? b = some o ∧ ∀ v, o.data ≠ .cell v
theorem Doze.trans {Ss : List Addr} {s s' s'' : Shared} (x : Doze Ss s s') (y : Doze Ss s' s'') : Doze Ss s s'' :=
  ⟨y.os.trans x.os, y.bare, fun b o hb e => y.keep b o hb (x.keep b o hb e), y.there⟩
theorem inv_doze {X : Cx} {pins : List (Addr × Obj)} {σ : L2.St} {H : Hp} {s s' : Shared} {Ss : List Addr} (I : Inv X pins σ H s) (hS : ∀ b ∈ Ss, H b = none ∧ X.s_0.heap.objs.size ≤ b ∧ b ≠ X.env.locals ∧ (∀ x c, X.env.cells.lookup x = some c → c ≠ b) ∧ ∀ p ∈ X.pn ++ pins, p.1 ≠ b)
    (z : Doze Ss s s') : Inv X pins σ H s' := by
  obtain ⟨hh, g, d, t, o⟩ := s'
  have ho : o = s.os := z.os
  subst ho
  have nS : ∀ b u, H b = some u → b ∉ Ss := fun b u e hb => by
    rw [(hS b hb).1] at e
    cases e
  refine I.step (g' := g) (t' := t) (d' := d) (ch := Ss) (fun b hb => ?_) (fun b ob _ _ hc q _ => z.keep b ob hc q) (fun b ob _ _ hc q _ => ⟨ob.slots, z.keep b ob hc q⟩) (fun _ _ _ _ n => n) (fun b ob hc q => ⟨ob, z.keep b ob hc q⟩)
    (fun _ _ q => q) (fun _ _ _ q => q) (fun b ps q => ⟨#[], by rw [q]; simp⟩) (fun m hm => ?_) (fun b u q => ?_) z.bare
  · obtain ⟨_, h2, h3, h4, h5⟩ := hS b hb
    exact ⟨.inr h2, h3, h4, h5⟩
  · obtain ⟨ob, es, ep, ho, r⟩ := hm
    exact ⟨ob, es, ep, z.keep _ ob (fun hb => (hS _ hb).2.2.1 rfl) ho, r⟩
  · refine (I.hok b u q).stay (fun c v hc y => z.keep c v ?_ y) (fun _ y => y) fun _ _ y => y
    rcases hc with y | y
    · rw [y]; exact nS b u q
    · exact nS c _ y
/-- the generator's frame: entered at s (abstractly H) from the frames that run there; fp: its first iterator's records; pn: what no step of it may touch -/
def gcx (X : Cx) (A : Around) (N : List Str) (s : Shared) (H : Hp) (cenv : Env) (fp : List Addr) (pn : List (Addr × Obj)) : Cx where
  prog := X.prog
  w := X.w
  K := X.K
  mg := X.mg
  base := X.base
  A := A
  N := N
  s_0 := s
  H_0 := H
  env := cenv
  outer := X.stack
  stack := cenv :: X.stack
  ex := fp
  calm := true
  fn := fun _ => false
  pn := pn
  xe := fun _ _ => False
/-- the names of the generator's frame: «.0», the captured ones, its own -/
structure GScope (N fr : List Str) (sc : Scope) : Prop where
  kind : sc.kind = .function
  co : sc.isCoroutine = false
  nd : N.Nodup
  pre : N.take (1 + fr.length) = (".0" : Str) :: fr
  dot : sc.names.lookup (".0" : Str) = some NameKind.local
  nocell : ∀ y ∈ sc.names, y.2 ≠ .cell
  free : ∀ y ∈ sc.names, y.2 = .free → y.1 ∈ fr
  frk : ∀ x ∈ fr, sc.names.lookup x = some .free
def gscB (N fr : List Str) (sc : Scope) : Bool :=
  decide (sc.kind = .function) && !sc.isCoroutine && decide N.Nodup && decide (N.take (1 + fr.length) = (".0" : Str) :: fr) && decide (sc.names.lookup (".0" : Str) = some NameKind.local) && sc.names.all (fun y => !decide (y.2 = .cell)) && sc.names.all (fun y => !decide (y.2 = .free) || decide (y.1 ∈ fr)) && fr.all (fun x => decide (sc.names.lookup x = some .free))
theorem gscope_by {N fr : List Str} {sc : Scope} (h : gscB N fr sc = true) : GScope N fr sc := by
  unfold gscB at h
  simp only [Bool.and_eq_true, Bool.not_eq_true', decide_eq_true_eq, List.all_eq_true, Bool.or_eq_true, decide_eq_false_iff_not] at h
  obtain ⟨⟨⟨⟨⟨⟨⟨h1, h2⟩, h4⟩, h5⟩, h6⟩, h7⟩, h8⟩, h9⟩ := h
  exact ⟨h1, h2, h4, h5, h6, h7, fun y hy e => (h8 y hy).elim (fun z => absurd e z) id, h9⟩
/-- the frame's values at its start -/
def startG (N : List Str) (ws : List (Option V)) : L2.St := none :: (ws ++ List.replicate (N.length - 1 - ws.length) none)
theorem startG_len {N fr : List Str} {sc : Scope} (S : GScope N fr sc) {ws : List (Option V)} (hw : ws.length = fr.length) : (startG N ws).length = N.length := by
  have q := congrArg List.length S.pre
  rw [List.length_take, List.length_cons] at q
  unfold startG
  rw [List.length_cons, List.length_append, List.length_replicate]
  omega
theorem inv_startG {X : Cx} {pins : List (Addr × Obj)} {σ : L2.St} {H : Hp} {s s' : Shared} {A : Around} {N fr : List Str} {scope : Scope} {cl : List (Str × Addr)} {code : Value} {fp : List Addr} {js : List Nat} {a : Addr} {oa : Obj} {m : Str → Option Value}
    (I : Inv X pins σ H s) (S : GScope N fr scope) (cp : Caps X cl fr js) (hA : A.handled = none) (hF : A.frames = some (genEnv scope cl s.heap.objs.size code builtinsNs X.env :: X.stack))
    (hfp : ∀ b ∈ fp, FpOk X pins H b ∧ b < s.heap.objs.size) (hos : s'.os = s.os) (hbare : AllBare s'.gens) (kp : ∀ b o, s.heap.get? b = some o → s'.heap.get? b = some o) (hns : s'.heap.Ns s.heap.objs.size m)
    (ha : s.heap.objs.size < a) (hoa : s'.heap.get? a = some oa) (hnc : ∀ v, oa.data ≠ .cell v) :
    Inv (gcx X A N s H (genEnv scope cl s.heap.objs.size code builtinsNs X.env) fp [(a, oa)]) [] (startG N (js.map (slotAt σ))) H s' := by
  have C : CellsAt cl fr (js.map (slotAt σ)) s.heap H := cells_of I cp
  have cellLt : ∀ y c, cl.lookup y = some c → c < s.heap.objs.size := fun y c e => by
    obtain ⟨_, v, z⟩ := C.all y c e
    exact z.lt
  have frFree : ∀ b ∈ frs X.stack, H b = none := I.stkFree
  have frLt : ∀ b ∈ frs X.stack, b < s.heap.objs.size := fun b hb => by
    have q := I.stack.mem hb
    obtain ⟨_, o, ho, _⟩ := q
    exact Heap.lt_size ho
  have okG : (gcx X A N s H (genEnv scope cl s.heap.objs.size code builtinsNs X.env) fp [(a, oa)]).Ok := by
    refine ⟨I.ok.mod, S.kind, I.ok.glob, rfl, Nat.le_refl _, C.inj, fun y hy => ?_, fun y c z _ => ?_, fun _ => hA, hF, .inr ⟨rfl, rfl⟩, fun b hb => ⟨?_, fun y c e z => ?_⟩, fun b o e => ⟨(I.bs b o e).1, (I.bs b o e).2⟩, Nat.le_trans I.ok.bsz I.sz, fun b o e hb => ?_, fun b hb z => ?_, I.stack, frFree⟩
    · have hy : scope.names.lookup y = some .cell ∨ scope.names.lookup y = some .free := hy
      rcases hy with hy | hy
      · exact absurd rfl (S.nocell _ (PySem.mem_of_lookup hy))
      · obtain ⟨i, hi⟩ := List.mem_iff_getElem?.mp (S.free _ (PySem.mem_of_lookup hy) rfl)
        obtain ⟨c, hc, _⟩ := C.has i y hi
        exact ⟨c, hc⟩
    · have z : false = true := z
      cases z
    · exact Nat.ne_of_lt (hfp b hb).2
    · have e : cl.lookup y = some c := e
      obtain ⟨hn, v, o, ho, hd⟩ := C.all y c e
      obtain ⟨⟨f0, f1, f2, f3, f4, f5⟩, f6⟩ := hfp b hb
      exact f4 y c (cp.sub y c e) z
    · obtain ⟨⟨f0, f1, f2, f3, f4, f5⟩, f6⟩ := hfp b hb
      have h0 := I.ok.bs b o e
      rcases f3 with f3 | f3
      · exact I.ok.noex b o e f3
      · exact absurd (Nat.lt_of_lt_of_le (Heap.lt_size h0.1) f3) (Nat.lt_irrefl _)
    · obtain ⟨⟨f0, f1, f2, f3, f4, f5⟩, f6⟩ := hfp b hb
      rcases List.mem_cons.mp (I.stkSub b z) with q | q
      · exact f1 q
      · exact f2 q
  refine ⟨okG, hos, hbare, Un.kept kp, ⟨m, hns, fun i y v e1 e2 e3 => ?_⟩, fun y c e => ?_, I.hok.fresh (Nat.le_refl _), fun y c e => (C.all y c e).1, fun p hp => ?_, I.hok.kept kp, startG_len S C.len⟩
  · have e1 : N[i]? = some y := e1
    have hlen := C.len
    cases i with
    | zero => cases e2
    | succ i =>
      have e2 : (js.map (slotAt σ) ++ List.replicate (N.length - 1 - (js.map (slotAt σ)).length) none)[i]? = some (some v) := e2
      by_cases h2 : i < (js.map (slotAt σ)).length
      · have hq : ((".0" : Str) :: fr)[i + 1]? = some y := by
          rw [← S.pre, List.getElem?_take_of_lt (by omega)]
          exact e1
        have hq : fr[i]? = some y := hq
        rw [List.getElem?_append_left h2] at e2
        obtain ⟨c, hc, hv⟩ := C.has i y hq
        obtain ⟨u, ru, o, ho, hd⟩ := hv v e2
        exact ⟨u, ru, .inr ⟨.inr (S.frk y (List.mem_of_getElem? hq)), c, hc, o, kp _ _ ho, hd⟩⟩
      · rw [List.getElem?_append_right (by omega), List.getElem?_replicate] at e2
        split at e2 <;> cases e2
  · obtain ⟨v, o, ho, hd⟩ := (C.all y c e).2
    exact ⟨v, o, kp _ _ ho, hd⟩
  · have hp : p = (a, oa) := by simpa [gcx] using hp
    subst hp
    refine ⟨hoa, I.hok.fresh (Nat.le_of_lt ha), Nat.ne_of_gt ha, fun z => ?_, hnc⟩
    exact absurd (frLt a z) (Nat.not_lt.mpr (Nat.le_of_lt ha))
end K22
end
section
set_option Elab.async false
set_option linter.all false
set_option maxRecDepth 100000
set_option maxHeartbeats 4000000
/-! K22GenB: any, all, sum, min over a generator that gives the values ys. -/
namespace K22
open PySem PySem.Spec PyProof.Rows L2 NdefX
def Held (Ss : List Addr) (s : Shared) : Prop := ∀ b ∈ Ss, ∃ o, s.heap.get? b = some o ∧ ∀ v, o.data ≠ .cell v
def SameAt (Ss : List Addr) (s s' : Shared) : Prop := ∀ b ∈ Ss, ∀ o, s.heap.get? b = some o → s'.heap.get? b = some o
/-- the iterator I has n values of ys left (St n); Out: what is known when one walks away -/
structure GW (prog : Program) (w : World) (A : Around) (I : Addr) (Ss : List Addr) (ys : List V) (St : Nat → Shared → Prop) (Out : Shared → Prop) : Prop where
  item : ∀ n (s : Shared) (Q : Option Value → Shared → Prop) (E : Value → Shared → Prop), St (n + 1) s → Held Ss s → (∀ z v s', ys[ys.length - 1 - n]? = some z → RelV z v → St n s' → SameAt Ss s s' → Q (some v) s') → wpAny (model prog w) A (pyNext (.ref I)) Q E s
  done : ∀ (s : Shared) (Q : Option Value → Shared → Prop) (E : Value → Shared → Prop), St 0 s → Held Ss s → (∀ s', Out s' → SameAt Ss s s' → Q none s') → wpAny (model prog w) A (pyNext (.ref I)) Q E s
  out : ∀ n s, St n s → Out s
  bare : ∀ s, Out s → AllBare s.gens
  doze : ∀ n s s', St n s → Doze Ss s s' → s'.gens = s.gens → St n s'
  odoze : ∀ s s', Out s → Doze Ss s s' → Out s'
theorem held_nil (s : Shared) : Held [] s := fun b hb => absurd hb (by simp)
theorem take_next {α : Type} {ys : List α} {n : Nat} {z : α} (h : n + 1 ≤ ys.length) (e : ys[ys.length - 1 - n]? = some z) : ys.drop (ys.length - (n + 1)) = z :: ys.drop (ys.length - n) := by
  have e1 : ys.length - (n + 1) = ys.length - 1 - n := by omega
  rw [e1]
  have hl : ys.length - 1 - n < ys.length := by omega
  rw [List.drop_eq_getElem_cons hl]
  rw [List.getElem?_eq_getElem hl] at e
  rw [Option.some.inj e]
  congr 1
  congr 1
  omega
section
variable {prog : Program} {w : World} {A : Around} {R : Result → Shared → Prop} {I : Addr} {St : Nat → Shared → Prop} {Out : Shared → Prop}
theorem any_turns {bs : List Bool} (W : GW prog w A.in1 I [] (bs.map V.bl) St Out) : ∀ (n : Nat) (s : Shared), n ≤ bs.length → St n s → (∀ s', Out s' → R (.ok (.ret (.bool ((bs.drop (bs.length - n)).any id)))) s') →
    codeAny (model prog w) A (.builtin "any.loop" ⟨[.ref I], []⟩) R s := by
  intro n
  induction n with
  | zero =>
    intro s hn hst hR
    refine codeAny_builtin F.entry_any_loop ?_
    rw [Around.under_plainId F.plain_any_loop _]
    show wpAny _ A.in1 (pyNext (.ref I) >>= _) _ _ s
    refine wpAny_bind (W.done s _ _ hst (held_nil s) fun s' ho _ => wpAny_bind (wpAny_rule (wpAny_pure ?_)))
    have q := hR s' ho
    rw [Nat.sub_zero, List.drop_length] at q
    exact q
  | succ n ih =>
    intro s hn hst hR
    refine codeAny_builtin F.entry_any_loop ?_
    rw [Around.under_plainId F.plain_any_loop _]
    show wpAny _ A.in1 (pyNext (.ref I) >>= _) _ _ s
    refine wpAny_bind (W.item n s _ _ hst (held_nil s) fun z v s' hz rv hst' _ => ?_)
    rw [List.length_map, List.getElem?_map] at hz
    cases hb : bs[bs.length - 1 - n]? with
    | none => rw [hb] at hz; cases hz
    | some b =>
      rw [hb] at hz
      cases hz
      cases rv
      have dr := take_next hn hb
      refine wpAny_bind (wpAny_holding (wpAny_truthy_bool (wpAny_bind (wpAny_letGo ?_))))
      cases b with
      | false =>
        simp only [Bool.false_eq_true, if_false]
        refine wpAny_pure ⟨plainId_quiet F.plain_any_loop _, ih s' (by omega) hst' fun s'' ho => ?_⟩
        have q := hR s'' ho
        rw [dr] at q
        exact q
      | true =>
        simp only [if_true]
        refine wpAny_bind (wpAny_rule (wpAny_pure ?_))
        have q := hR s' (W.out _ _ hst')
        rw [dr] at q
        exact q
theorem all_turns {bs : List Bool} (W : GW prog w A.in1 I [] (bs.map V.bl) St Out) : ∀ (n : Nat) (s : Shared), n ≤ bs.length → St n s → (∀ s', Out s' → R (.ok (.ret (.bool ((bs.drop (bs.length - n)).all id)))) s') →
    codeAny (model prog w) A (.builtin "all.loop" ⟨[.ref I], []⟩) R s := by
  intro n
  induction n with
  | zero =>
    intro s hn hst hR
    refine codeAny_builtin F.entry_all_loop ?_
    rw [Around.under_plainId F.plain_all_loop _]
    show wpAny _ A.in1 (pyNext (.ref I) >>= _) _ _ s
    refine wpAny_bind (W.done s _ _ hst (held_nil s) fun s' ho _ => wpAny_bind (wpAny_rule (wpAny_pure ?_)))
    have q := hR s' ho
    rw [Nat.sub_zero, List.drop_length] at q
    exact q
  | succ n ih =>
    intro s hn hst hR
    refine codeAny_builtin F.entry_all_loop ?_
    rw [Around.under_plainId F.plain_all_loop _]
    show wpAny _ A.in1 (pyNext (.ref I) >>= _) _ _ s
    refine wpAny_bind (W.item n s _ _ hst (held_nil s) fun z v s' hz rv hst' _ => ?_)
    rw [List.length_map, List.getElem?_map] at hz
    cases hb : bs[bs.length - 1 - n]? with
    | none => rw [hb] at hz; cases hz
    | some b =>
      rw [hb] at hz
      cases hz
      cases rv
      have dr := take_next hn hb
      refine wpAny_bind (wpAny_holding (wpAny_truthy_bool (wpAny_bind (wpAny_letGo ?_))))
      cases b with
      | true =>
        simp only [if_true]
        refine wpAny_pure ⟨plainId_quiet F.plain_all_loop _, ih s' (by omega) hst' fun s'' ho => ?_⟩
        have q := hR s'' ho
        rw [dr] at q
        exact q
      | false =>
        simp only [Bool.false_eq_true, if_false]
        refine wpAny_bind (wpAny_rule (wpAny_pure ?_))
        have q := hR s' (W.out _ _ hst')
        rw [dr] at q
        exact q
/-- the consumer's record as it stands -/
abbrev recO (vs : Array Value) (c : Nat) : Obj := { cls := .type "list", dict := none, data := .seq vs c, slots := #[] }
theorem doze_rec {S : Addr} {s : Shared} {vs : Array Value} {c tk : Nat} {f : Obj → Obj} {o' : Obj} (hb : AllBare s.gens) (h : s.heap.get? S = some (recO vs c)) (h' : (s.heap.update S f).get? S = some o') (hn : ∀ v, o'.data ≠ .cell v) :
    Doze [S] s { s with heap := s.heap.update S f, toks := tk } where
  os := rfl
  bare := hb
  keep := fun b o hb e => (Heap.get?_update_other _ _ (fun z : S = b => hb (by rw [z]; exact List.mem_singleton.mpr rfl))).trans e
  there := fun b hb => by
    rw [List.mem_singleton.mp hb]
    exact ⟨o', h', hn⟩
theorem held_rec {S : Addr} {s : Shared} {vs : Array Value} {c : Nat} (h : s.heap.get? S = some (recO vs c)) : Held [S] s := fun b hb => by
  rw [List.mem_singleton.mp hb]
  exact ⟨_, h, fun v e => by cases e⟩
theorem sum_turns {ks : List Int} {S : Addr} (W : GW prog w A.in1 I [S] (ks.map V.int) St Out) (hl : ∀ k ∈ ks, InLong k) (hp : ∀ j, InLong (ks.take j).sum) : ∀ (n : Nat) (s : Shared) (t : Tok) (c : Nat), n ≤ ks.length → St n s →
    s.heap.get? S = some (recO #[.int (ks.take (ks.length - n)).sum t] c) → (∀ s' t', Out s' → R (.ok (.ret (.int ks.sum t'))) s') →
    codeAny (model prog w) A (.builtin "sum.loop" ⟨[.ref I, .ref S, rawInt 0, rawInt 0], []⟩) R s := by
  intro n
  induction n with
  | zero =>
    intro s t c hn hst hS hR
    refine codeAny_builtin F.entry_sum_loop ?_
    rw [Around.under_plainId F.plain_sum_loop _]
    show wpAny _ A.in1 (seqItems? (.ref S) >>= _) _ _ s
    refine wpAny_bind (wpAny_seqItems hS rfl ?_)
    show wpAny _ A.in1 (tryCatch (pyNext (.ref I)) _ >>= _) _ _ s
    refine wpAny_bind (wpAny_tryCatch (W.done s _ _ hst (held_rec hS) fun s' ho _ => wpAny_pure ?_))
    have e : (ks.take (ks.length - 0)).sum = ks.sum := by rw [Nat.sub_zero, List.take_length]
    have q := hR s' t ho
    rw [← e] at q
    exact q
  | succ n ih =>
    intro s t c hn hst hS hR
    refine codeAny_builtin F.entry_sum_loop ?_
    rw [Around.under_plainId F.plain_sum_loop _]
    show wpAny _ A.in1 (seqItems? (.ref S) >>= _) _ _ s
    refine wpAny_bind (wpAny_seqItems hS rfl ?_)
    show wpAny _ A.in1 (tryCatch (pyNext (.ref I)) _ >>= _) _ _ s
    refine wpAny_bind (wpAny_tryCatch (W.item n s _ _ hst (held_rec hS) fun z v s' hz rv hst' hsame => ?_))
    rw [List.length_map, List.getElem?_map] at hz
    cases hk : ks[ks.length - 1 - n]? with
    | none => rw [hk] at hz; cases hz
    | some k =>
      rw [hk] at hz
      cases hz
      obtain ⟨tv, rfl⟩ := rv
      have hS' := hsame S (List.mem_singleton.mpr rfl) _ hS
      have i1 : ks.length - (n + 1) = ks.length - 1 - n := by omega
      have nxt : (ks.take (ks.length - (n + 1))).sum + k = (ks.take (ks.length - n)).sum := by
        have e2 : ks.length - n = ks.length - 1 - n + 1 := by omega
        rw [i1, e2, List.take_add_one, hk]
        simp
      obtain ⟨f1, f2⟩ := hl k (List.mem_of_getElem? hk)
      obtain ⟨f3, f4⟩ := hp (ks.length - n)
      have hc : ((decide (-(2 ^ 63) ≤ k) && decide (k < 2 ^ 63)) && (decide (-(2 ^ 63) ≤ (ks.take (ks.length - (n + 1))).sum + k) && decide ((ks.take (ks.length - (n + 1))).sum + k < 2 ^ 63))) = true := by
        rw [nxt]
        simp only [Bool.and_eq_true, decide_eq_true_eq]
        exact ⟨⟨f1, f2⟩, f3, f4⟩
      show wpAny _ A.in1 (if (_ : Bool) = true then (mkInt ((ks.take (ks.length - (n + 1))).sum + k) >>= _) else _) _ _ _
      split
      · refine wpAny_bind (wpAny_mkInt ?_)
        show wpAny _ A.in1 (updateSeq S (fun _ => #[.int ((ks.take (ks.length - (n + 1))).sum + k) s'.toks]) >>= _) _ _ _
        rw [nxt]
        refine wpAny_bind ?_
        refine wpAny_updateSeq hS' rfl (wpAny_pure ⟨plainId_quiet F.plain_sum_loop _, ih _ s'.toks _ (by omega) (W.doze _ s' _ hst' (doze_rec (tk := _) (W.bare _ (W.out _ _ hst')) hS' (Heap.get?_update_self _ hS' rfl) fun v e => by cases e) rfl) (Heap.get?_update_self _ hS' rfl) hR⟩)
      · rename_i hneg
        exact absurd hc hneg
theorem lt_ints {a b : Int} {t u : Tok} {E : Value → Shared → Prop} {Q : Value → Shared → Prop} {s : Shared} (h : Q (.bool (decide (a < b))) s) : wpAny (model prog w) A (richCompare .Lt (.int a t) (.int b u)) Q E s :=
  CmpOf.ints_lt (P := fun i v => ∃ t, v = Value.int (if i = 0 then a else b) t) (fun i => if i = 0 then a else b) (fun _ _ h => h) 0 1 _ _ s Q E ⟨t, rfl⟩ ⟨u, rfl⟩ h
/-- m is the least of ks -/
def IsMin (ks : List Int) (m : Int) : Prop := m ∈ ks ∧ ∀ k ∈ ks, m ≤ k
theorem isMin_snoc {ks : List Int} {m k : Int} (h : IsMin ks m) : IsMin (ks ++ [k]) (if k < m then k else m) := by
  by_cases c : k < m
  · rw [if_pos c]
    refine ⟨by simp, fun j hj => ?_⟩
    rcases List.mem_append.mp hj with hj | hj
    · have := h.2 j hj; omega
    · rw [List.mem_singleton.mp hj]; exact Int.le_refl _
  · rw [if_neg c]
    refine ⟨List.mem_append_left _ h.1, fun j hj => ?_⟩
    rcases List.mem_append.mp hj with hj | hj
    · exact h.2 j hj
    · rw [List.mem_singleton.mp hj]; omega
theorem min_turns {ks : List Int} {S : Addr} (W : GW prog w A.in1 I [S] (ks.map V.int) St Out) : ∀ (n : Nat) (s : Shared) (m : Int) (t : Tok) (c : Nat), n + 1 ≤ ks.length → St n s → IsMin (ks.take (ks.length - n)) m →
    s.heap.get? S = some (recO #[.int m t, .int m t] c) → (∀ s' m' t', Out s' → IsMin ks m' → R (.ok (.ret (.int m' t'))) s') →
    codeAny (model prog w) A (.builtin "min.loop" ⟨[.ref I, .none, .ref S], []⟩) R s := by
  have hname : (toString "min" ++ toString ".loop" : String) = "min.loop" := by decide
  intro n
  induction n with
  | zero =>
    intro s m t c hn hst hm hS hR
    refine codeAny_builtin F.entry_min_loop ?_
    rw [Around.under_plainId F.plain_min_loop _]
    show wpAny _ A.in1 (seqItems? (.ref S) >>= _) _ _ s
    refine wpAny_bind (wpAny_seqItems hS rfl ?_)
    show wpAny _ A.in1 (tryCatch (pyNext (.ref I)) _ >>= _) _ _ s
    refine wpAny_bind (wpAny_tryCatch (W.done s _ _ hst (held_rec hS) fun s' ho hsame => ?_))
    have hS' := hsame S (List.mem_singleton.mpr rfl) _ hS
    show wpAny _ A.in1 (updateSeq S (fun _ => #[]) >>= _) _ _ _
    refine wpAny_bind ?_
    refine wpAny_updateSeq hS' rfl (wpAny_bind (wpAny_letGo (wpAny_pure ?_)))
    rw [Nat.sub_zero, List.take_length] at hm
    exact hR _ m t (W.odoze s' _ ho (doze_rec (tk := s'.toks) (W.bare _ ho) hS' (Heap.get?_update_self _ hS' rfl) fun v e => by cases e)) hm
  | succ n ih =>
    intro s m t c hn hst hm hS hR
    refine codeAny_builtin F.entry_min_loop ?_
    rw [Around.under_plainId F.plain_min_loop _]
    show wpAny _ A.in1 (seqItems? (.ref S) >>= _) _ _ s
    refine wpAny_bind (wpAny_seqItems hS rfl ?_)
    show wpAny _ A.in1 (tryCatch (pyNext (.ref I)) _ >>= _) _ _ s
    refine wpAny_bind (wpAny_tryCatch (W.item n s _ _ hst (held_rec hS) fun z v s' hz rv hst' hsame => ?_))
    rw [List.length_map, List.getElem?_map] at hz
    cases hk : ks[ks.length - 1 - n]? with
    | none => rw [hk] at hz; cases hz
    | some k =>
      rw [hk] at hz
      cases hz
      obtain ⟨tv, rfl⟩ := rv
      have hS' := hsame S (List.mem_singleton.mpr rfl) _ hS
      have i1 : ks.length - (n + 1) = ks.length - 1 - n := by omega
      have i2 : ks.length - n = ks.length - 1 - n + 1 := by omega
      have nxt : ks.take (ks.length - n) = ks.take (ks.length - (n + 1)) ++ [k] := by
        rw [i2, i1, List.take_add_one, hk]
        rfl
      have hm' : IsMin (ks.take (ks.length - n)) (if k < m then k else m) := by
        rw [nxt]
        exact isMin_snoc hm
      show wpAny _ A.in1 (tryCatch (holding [_, _] (richCompare .Lt (.int k tv) (.int m t) >>= _)) _ >>= _) _ _ _
      refine wpAny_bind (wpAny_tryCatch (wpAny_holding (wpAny_bind (lt_ints ?_))))
      refine wpAny_bind (wpAny_holding (wpAny_truthy_bool ?_))
      refine wpAny_bind (wpAny_letGo (wpAny_pure ?_))
      by_cases hc : k < m
      · rw [if_pos hc] at hm'
        rw [decide_eq_true hc]
        simp only [if_true]
        refine wpAny_bind ?_
        refine wpAny_updateSeq hS' rfl (wpAny_bind (wpAny_letGo ?_))
        rw [hname]
        exact wpAny_pure ⟨plainId_quiet F.plain_min_loop _, ih _ k tv _ (by omega) (W.doze _ s' _ hst' (doze_rec (tk := _) (W.bare _ (W.out _ _ hst')) hS' (Heap.get?_update_self _ hS' rfl) fun v e => by cases e) rfl) hm' (Heap.get?_update_self _ hS' rfl) hR⟩
      · rw [if_neg hc] at hm'
        rw [decide_eq_false hc]
        simp only [Bool.false_eq_true, if_false]
        refine wpAny_bind (wpAny_letGo ?_)
        rw [hname]
        exact wpAny_pure ⟨plainId_quiet F.plain_min_loop _, ih _ m t c (by omega) hst' hm' hS' hR⟩
theorem min_first {ks : List Int} {S : Addr} (W : GW prog w A.in1 I [S] (ks.map V.int) St Out) (hk : ks ≠ []) {s : Shared} {c : Nat} (hst : St ks.length s) (hS : s.heap.get? S = some (recO #[] c))
    (hR : ∀ s' m' t', Out s' → IsMin ks m' → R (.ok (.ret (.int m' t'))) s') : codeAny (model prog w) A (.builtin "min.loop" ⟨[.ref I, .none, .ref S], []⟩) R s := by
  have hname : (toString "min" ++ toString ".loop" : String) = "min.loop" := by decide
  obtain ⟨k, r, rfl⟩ : ∃ k r, ks = k :: r := by
    cases ks with
    | nil => exact absurd rfl hk
    | cons k r => exact ⟨k, r, rfl⟩
  refine codeAny_builtin F.entry_min_loop ?_
  rw [Around.under_plainId F.plain_min_loop _]
  show wpAny _ A.in1 (seqItems? (.ref S) >>= _) _ _ s
  refine wpAny_bind (wpAny_seqItems hS rfl ?_)
  show wpAny _ A.in1 (tryCatch (pyNext (.ref I)) _ >>= _) _ _ s
  refine wpAny_bind (wpAny_tryCatch (W.item r.length s _ _ hst (held_rec hS) fun z v s' hz rv hst' hsame => ?_))
  have hz0 : ((k :: r).map V.int)[((k :: r).map V.int).length - 1 - r.length]? = some (V.int k) := by
    rw [List.length_map, List.length_cons, Nat.add_sub_cancel, Nat.sub_self]
    rfl
  rw [hz0] at hz
  cases hz
  obtain ⟨tv, rfl⟩ := rv
  have hS' := hsame S (List.mem_singleton.mpr rfl) _ hS
  show wpAny _ A.in1 (updateSeq S (fun _ => #[.int k tv, .int k tv]) >>= _) _ _ _
  refine wpAny_bind ?_
  refine wpAny_updateSeq hS' rfl ?_
  rw [hname]
  have i3 : (k :: r).length - r.length = 1 := by rw [List.length_cons]; omega
  refine wpAny_pure ⟨plainId_quiet F.plain_min_loop _, min_turns W r.length _ k tv _ (Nat.le_refl _) (W.doze _ s' _ hst' (doze_rec (tk := _) (W.bare _ (W.out _ _ hst')) hS' (Heap.get?_update_self _ hS' rfl) fun v e => by cases e) rfl) ?_ (Heap.get?_update_self _ hS' rfl) hR⟩
  rw [i3]
  exact ⟨by simp, fun j hj => by
    have : j = k := by simpa using hj
    omega⟩
/-! ### the calls, from the generator as it stands -/
variable {E : Value → Shared → Prop} {Q : Value → Shared → Prop} {s : Shared}
theorem call_any {bs : List Bool} (self : ∀ (Q : Value → Shared → Prop) (E : Value → Shared → Prop), Q (.ref I) s → wpAny (model prog w) A.in1 (pyIter (.ref I)) Q E s)
    (W : GW prog w A.in1 I [] (bs.map V.bl) St Out) (hst : St bs.length s) (hQ : ∀ s', Out s' → Q (.bool (bs.any id)) s') : wpAny (model prog w) A (call (.builtin "any") [.ref I]) Q E s := by
  refine call_function_tree F.kind_any F.plain_any F.entry_any (F.args_any1 _) ?_
  unfold Builtin.«any»
  refine wpAny_bind (m := oneArg "any" _) (wpAny_pure ?_)
  refine wpAny_bind (self _ _ ?_)
  refine wpAny_pure ⟨plainId_quiet F.plain_any_loop _, any_turns W bs.length s (Nat.le_refl _) hst fun s' ho => ?_⟩
  rw [Nat.sub_self]
  exact hQ s' ho
theorem call_all {bs : List Bool} (self : ∀ (Q : Value → Shared → Prop) (E : Value → Shared → Prop), Q (.ref I) s → wpAny (model prog w) A.in1 (pyIter (.ref I)) Q E s)
    (W : GW prog w A.in1 I [] (bs.map V.bl) St Out) (hst : St bs.length s) (hQ : ∀ s', Out s' → Q (.bool (bs.all id)) s') : wpAny (model prog w) A (call (.builtin "all") [.ref I]) Q E s := by
  refine call_function_tree F.kind_all F.plain_all F.entry_all (F.args_all1 _) ?_
  unfold Builtin.«all»
  refine wpAny_bind (m := oneArg "all" _) (wpAny_pure ?_)
  refine wpAny_bind (self _ _ ?_)
  refine wpAny_pure ⟨plainId_quiet F.plain_all_loop _, all_turns W bs.length s (Nat.le_refl _) hst fun s' ho => ?_⟩
  rw [Nat.sub_self]
  exact hQ s' ho
theorem doze_new {s : Shared} {o : Obj} {tk : Nat} (hb : AllBare s.gens) (hn : ∀ v, o.data ≠ .cell v) (hf : o.isFreed = false := by rfl) : Doze [s.heap.objs.size] s { s with heap := s.heap.push o, toks := tk } where
  os := rfl
  bare := hb
  keep := fun b ob _ e => Heap.get?_push_of_some _ e
  there := fun b hb => by
    rw [List.mem_singleton.mp hb]
    exact ⟨o, Heap.get?_push_size _ hf, hn⟩
theorem call_min {ks : List Int} (self : ∀ (Q : Value → Shared → Prop) (E : Value → Shared → Prop), Q (.ref I) s → wpAny (model prog w) A.in1 (pyIter (.ref I)) Q E s)
    (W : GW prog w A.in1 I [s.heap.objs.size] (ks.map V.int) St Out) (hk : ks ≠ []) (hst : St ks.length s) (hQ : ∀ s' m t, Out s' → IsMin ks m → Q (.int m t) s') : wpAny (model prog w) A (call (.builtin "min") [.ref I]) Q E s := by
  have hname : (toString "min" ++ toString ".loop" : String) = "min.loop" := by decide
  refine call_function_tree F.kind_min F.plain_min F.entry_min (F.args_min1 _) ?_
  show wpAny _ A.in1 (Builtin.Builtins.bindParams "min" ["key", "default"] 0 ⟨[], []⟩ >>= _) _ _ s
  refine wpAny_bind (wpAny_of_eq (show Builtin.Builtins.bindParams "min" ["key", "default"] 0 ⟨[], []⟩ = pure [none, none] from rfl) ?_)
  refine wpAny_bind (wpAny_pure ?_)
  refine wpAny_bind (self _ _ ?_)
  refine wpAny_bind (wpAny_newObj_type ?_)
  rw [hname]
  exact wpAny_pure ⟨plainId_quiet F.plain_min_loop _, min_first W hk (W.doze _ s _ hst (doze_new (tk := s.toks) (W.bare _ (W.out _ _ hst)) fun v e => by cases e) rfl) (Heap.get?_push_size _ rfl) hQ⟩
theorem call_sum {ks : List Int} (self : ∀ (Q : Value → Shared → Prop) (E : Value → Shared → Prop), Q (.ref I) s → wpAny (model prog w) A.in1 (pyIter (.ref I)) Q E s)
    (W : GW prog w A.in1 I [s.heap.objs.size] (ks.map V.int) St Out) (hl : ∀ k ∈ ks, InLong k) (hp : ∀ j, InLong (ks.take j).sum) (hst : St ks.length s) (hQ : ∀ s' t, Out s' → Q (.int ks.sum t) s') : wpAny (model prog w) A (call (.builtin "sum") [.ref I]) Q E s := by
  refine call_function_tree F.kind_sum F.plain_sum F.entry_sum (F.args_sum1 _) ?_
  unfold Builtin.«sum»
  simp only [List.length_cons, List.length_nil]
  rw [if_neg (by decide)]
  refine wpAny_bind (wpAny_of_eq (show Builtin.Builtins.bindParams "sum" ["start"] 0 { } = pure [none] from rfl) ?_)
  refine wpAny_bind (self _ _ ?_)
  refine wpAny_bind (wpAny_mkInt (wpAny_bind (wpAny_pure ?_)))
  simp only [List.forIn_cons, List.forIn_nil]
  refine wpAny_bind (wpAny_bind (wpAny_bind (wpAny_isInstance (T := "int") (b := false) (typeIs_int _ _ _) PySem.sub_int_str ?_)))
  simp only [Bool.false_eq_true, if_false]
  refine wpAny_pure (wpAny_bind (wpAny_bind (wpAny_isInstance (T := "int") (b := false) (typeIs_int _ _ _) PySem.sub_int_bytes ?_)))
  simp only [Bool.false_eq_true, if_false]
  refine wpAny_pure (wpAny_bind (wpAny_bind (wpAny_isInstance (T := "int") (b := false) (typeIs_int _ _ _) PySem.sub_int_bytearray ?_)))
  simp only [Bool.false_eq_true, if_false]
  refine wpAny_pure (wpAny_pure ?_)
  refine wpAny_bind (wpAny_newObj_type ?_)
  have h0 : (ks.take (ks.length - ks.length)).sum = 0 := by rw [Nat.sub_self]; rfl
  refine wpAny_pure ⟨plainId_quiet F.plain_sum_loop _, sum_turns W hl hp ks.length _ s.toks 0 (Nat.le_refl _) (W.doze _ s _ hst (doze_new (W.bare _ (W.out _ _ hst)) fun v e => by cases e) rfl) ?_ fun s' t' ho => hQ s' t' ho⟩
  rw [h0]
  exact Heap.get?_push_size _ rfl
end
end K22
end
section
set_option Elab.async false
set_option linter.all false
set_option maxRecDepth 100000
set_option maxHeartbeats 4000000
/-! K22GenC: the run of a generator expression of one clause. -/
namespace K22
open PySem PySem.Spec PyProof.Rows L2 NdefX
/-- what is known where the generator lies still -/
def GLive (X : Cx) (Ss : List Addr) (G : Hp → Prop) (s : Shared) : Prop := ∃ σ H, Inv X [] σ H s ∧ (∀ b ∈ Ss, H b = none) ∧ G H
def PY (X : Cx) (Ss : List Addr) (G : Hp → Prop) (ys : List V) : Protocol := fun n s₀ v s kap =>
  ∃ z, ys[ys.length - 1 - n]? = some z ∧ RelV z v ∧ GLive X Ss G s ∧ SameAt Ss s₀ s ∧ ∀ s', Doze Ss s s' → kap (.send .none) s'
def PR (X : Cx) (Ss : List Addr) (G : Hp → Prop) : GenEnd := fun n s₀ r s => r = .ok .next ∧ n = 0 ∧ GLive X Ss G s ∧ SameAt Ss s₀ s
/-- the consumer's records stand apart from the generator's frame -/
structure Far (X : Cx) (Ss : List Addr) : Prop where
  new : ∀ b ∈ Ss, X.s_0.heap.objs.size ≤ b
  loc : ∀ b ∈ Ss, b ≠ X.env.locals
  fs : ∀ b ∈ Ss, b ∉ X.fs
  cell : ∀ b ∈ Ss, ∀ x c, X.env.cells.lookup x = some c → c ≠ b
  pn : ∀ b ∈ Ss, ∀ p ∈ X.pn, p.1 ≠ b
theorem repin {X : Cx} {Ss : List Addr} {σ : L2.St} {H : Hp} {s : Shared} (F : Far X Ss) (I : Inv X [] σ H s) (hH : ∀ b ∈ Ss, H b = none) (hs : Held Ss s) : Inv X (pinsAt Ss s.heap) σ H s :=
  I.pins_of fun p hp => by
    obtain ⟨hb, e⟩ := of_pinsAt hp
    obtain ⟨o, e', d⟩ := hs p.1 hb
    rw [e] at e'
    cases e'
    exact ⟨e, hH p.1 hb, F.loc p.1 hb, F.fs p.1 hb, d⟩
theorem pins_none {X : Cx} {Ss : List Addr} {pins : List (Addr × Obj)} {σ : L2.St} {H : Hp} {s s₀ : Shared} (I : Inv X (pinsAt Ss s₀.heap ++ pins) σ H s) (hs : Held Ss s₀) : (∀ b ∈ Ss, H b = none) ∧ SameAt Ss s₀ s := by
  refine ⟨fun b hb => ?_, fun b hb o e => ?_⟩
  · obtain ⟨o, e, _⟩ := hs b hb
    exact (I.pin (b, o) (List.mem_append_right _ (List.mem_append_left _ (mem_pinsAt hb e)))).2.1
  · exact (I.pin (b, o) (List.mem_append_right _ (List.mem_append_left _ (mem_pinsAt hb e)))).1
theorem drop_pins {X : Cx} {pins : List (Addr × Obj)} {σ : L2.St} {H : Hp} {s : Shared} (I : Inv X pins σ H s) : Inv X [] σ H s := I.pins_of fun p hp => absurd hp (by simp)
/-- woken from s, where the frame's state was σ, H -/
theorem woken {X : Cx} {Ss : List Addr} {σ : L2.St} {H : Hp} {s s' : Shared} (F : Far X Ss) (I : Inv X [] σ H s) (hH : ∀ b ∈ Ss, H b = none) (z : Doze Ss s s') : Inv X (pinsAt Ss s'.heap) σ H s' :=
  repin F (inv_doze I (fun b hb => ⟨hH b hb, F.new b hb, F.loc b hb, F.cell b hb, fun p hp => by
    rw [List.append_nil] at hp
    exact F.pn b hb p hp⟩) z) hH z.there
/-- the reading of a turn of the loop: zs are still to come -/
def GTurn (J : It) (g : TG) (tt : TT) (te : TE) (G : Hp → Prop) (W : Nat → Nat → List V → L2.St → Hp → Prop) : Prop :=
  ∀ i m zs σ H, W i m zs σ H → (J.stop i H ∧ zs = [] ∧ G H) ∨ (J.go i H ∧ ∃ N : List V → L2.St → Hp → Prop, (∀ zs' σ' H', N zs' σ' H' → ∃ m', m' < m ∧ W (i + 1) m' zs' σ' H') ∧
    ∀ x H', J.yld i H x H' → g x σ H' fun σ2 H2 => tt σ2 H2 fun b H3 => if b = true then te σ2 H3 fun v H4 => ∃ zs', zs = v :: zs' ∧ G H4 ∧ N zs' σ2 H4 else N zs σ2 H3)
/-- what is still to come, of ys -/
def Rest (ys zs : List V) : Prop := zs.length ≤ ys.length ∧ zs = ys.drop (ys.length - zs.length)
theorem Rest.all (ys : List V) : Rest ys ys := ⟨Nat.le_refl _, by rw [Nat.sub_self]; rfl⟩
theorem Rest.next {ys zs : List V} {v : V} (h : Rest ys (v :: zs)) : ys[ys.length - 1 - zs.length]? = some v ∧ Rest ys zs := by
  obtain ⟨h1, h2⟩ := h
  rw [List.length_cons] at h1 h2
  have e1 : ys.length - (zs.length + 1) = ys.length - 1 - zs.length := by omega
  rw [e1] at h2
  have hl : ys.length - 1 - zs.length < ys.length := by omega
  rw [List.drop_eq_getElem_cons hl] at h2
  have e2 := (List.cons.inj h2).1
  have e3 := (List.cons.inj h2).2
  refine ⟨by rw [List.getElem?_eq_getElem hl, ← e2], by omega, ?_⟩
  have e4 : ys.length - 1 - zs.length + 1 = ys.length - zs.length := by omega
  rw [e4] at e3
  exact e3
section
variable {prog : Program} {w : World} {Z : Around} {X : Cx} {Ss : List Addr} {G : Hp → Prop} {ys : List V}
/-- the loop of the only clause -/
theorem gen_loop {elt tg iter : Expr} {ifs : List Expr} {scope : Scope} {pos : Pos} {it : Addr} {fp : List Addr} {tn : Nat → Heap → Prop} {J : It} {g : TG} {tt : TT} {te : TE} {W : Nat → Nat → List V → L2.St → Hp → Prop}
    (hA : X.A = Z.over (.compLoop (.GeneratorExp elt [⟨tg, iter, ifs, 0⟩] scope pos) 0 (.ref it) .none X.env) []) (hc : X.calm = true) (hx : X.xe = fun _ _ => False) (hco : X.env.scope.isCoroutine = false) (F : Far X Ss)
    (T : Turn X.prog X.w X.K tg J fp it tn) (hfp : ∀ H : Hp, (∀ b ∈ fp, H b = none) → ∀ b ∈ fp, FpOk X [] H b) (hfS : ∀ b ∈ fp, b ∉ Ss)
    (hg : PG X tg g) (ht : PTs X ifs tt) (he : PE X elt te) (hW : GTurn J g tt te G W) :
    ∀ (m i : Nat) (zs : List V) (σ : L2.St) (H : Hp) (s s₀ : Shared), W i m zs σ H → Rest ys zs → Inv X (pinsAt Ss s₀.heap) σ H s → Held Ss s₀ → tn i s.heap → (∀ b ∈ fp, H b = none) →
      Seg (model X.prog X.w) Z (PR X Ss G) (PY X Ss G ys) zs.length s₀ (.compLoop (.GeneratorExp elt [⟨tg, iter, ifs, 0⟩] scope pos) 0 (.ref it) .none X.env)
        ((model X.prog X.w).den (.compLoop (.GeneratorExp elt [⟨tg, iter, ifs, 0⟩] scope pos) 0 (.ref it) .none X.env)) [] s := by
  have noexc : ∀ {α : Type} {t : Sem α} {Q Q' : α → Shared → Prop} {E : Value → Shared → Prop} {s : Shared}, wpAny (model X.prog X.w) X.A t Q X.xe s → (∀ a s, Q a s → Q' a s) → wpAny (model X.prog X.w) X.A t Q' E s := fun h hQ => wpAny_mono h hQ fun _ _ x => by
    rw [hx] at x
    exact x.elim
  have fpS : ∀ {H : Hp} {s₀ : Shared}, (∀ b ∈ fp, H b = none) → ∀ b ∈ fp, FpOk X (pinsAt Ss s₀.heap) H b := fun hn b hb => by
    obtain ⟨f0, f1, f2, f3, f4, f5⟩ := hfp _ hn b hb
    refine ⟨f0, f1, f2, f3, f4, fun p hp z => ?_⟩
    rcases List.mem_append.mp hp with hp | hp
    · exact f5 p (List.mem_append_left _ hp) z
    · have := (of_pinsAt hp).1
      rw [z] at this
      exact hfS b hb this
  intro m
  induction m using Nat.strongRecOn with
  | ind m ih =>
    intro i zs σ H s s₀ w hr I hs st hn
    show Seg _ Z _ _ _ s₀ _ ((compTurn (.GeneratorExp elt [⟨tg, iter, ifs, 0⟩] scope pos) 0 (.ref it) .none X.env).onRaise (leaving X.env)) [] s
    rw [compTurn_gen, Sem.onRaise_eq_wrap]
    refine seg_bind_wrap (wpAny_standAt ?_)
    rcases hW i m zs σ H w with ⟨stop, hz, hG⟩ | ⟨go, N, hN, step⟩
    · subst hz
      refine seg_bind_wrap ?_
      rw [← hA]
      refine thn (T.done X rfl rfl rfl hc i _ s σ H _ I (fpS hn) st stop) fun r s4 ⟨hr, I4⟩ => ?_
      subst hr
      have I4' : Inv X (pinsAt Ss s₀.heap ++ []) σ H s4 := by rw [List.append_nil]; exact I4
      obtain ⟨p1, p2⟩ := pins_none I4' hs
      exact seg_end (.ok .next) ⟨rfl, rfl, ⟨σ, H, drop_pins I4, p1, hG⟩, p2⟩
    · refine seg_bind_wrap ?_
      rw [← hA]
      refine thn (T.item X rfl rfl rfl hc i _ s σ H _ I (fpS hn) st go) fun r s4 ⟨u, hr, h4⟩ => ?_
      subst hr
      refine seg_bind_wrap ?_
      rw [← hA]
      refine thn h4 fun _ s5 ⟨x, H5, I5, r5, y5, st5, fr5⟩ => ?_
      have I5' := I5.pinned (fpS fr5) (T.obj _ _ st5)
      have keepTn : ∀ {σ7 : L2.St} {H7 : Hp} {s7 : Shared}, Inv X (pinsAt Ss s₀.heap ++ pinsAt fp s5.heap) σ7 H7 s7 → tn (i + 1) s7.heap ∧ ∀ b ∈ fp, H7 b = none := fun I7 => by
        refine ⟨T.keep _ _ _ st5 fun b hb o e => (I7.pin (b, o) (List.mem_append_right _ (List.mem_append_right _ (mem_pinsAt hb e)))).1, fun b hb => ?_⟩
        obtain ⟨o, e, d⟩ := T.obj _ _ st5 b hb
        exact (I7.pin (b, o) (List.mem_append_right _ (List.mem_append_right _ (mem_pinsAt hb e)))).2.1
      refine seg_bind_wrap ?_
      rw [← hA]
      refine noexc (hg.run _ s5 σ H5 x u _ I5' r5 (step x H5 y5)) fun _ s6 ⟨σ6, H6, I6, q6⟩ => ?_
      refine seg_bind_wrap ?_
      rw [← hA]
      refine noexc (ht.run _ s6 σ6 H6 _ I6 q6) fun b s7 ⟨H7, I7, q7⟩ => ?_
      cases b with
      | false =>
        simp only [Bool.false_eq_true, if_false] at q7 ⊢
        obtain ⟨m', hm, w'⟩ := hN zs σ6 H7 q7
        obtain ⟨k1, k2⟩ := keepTn I7
        exact seg_again rfl (ih m' hm (i + 1) zs σ6 H7 s7 s₀ w' hr I7.unpinned hs k1 k2)
      | true =>
        simp only [if_true] at q7 ⊢
        have hy : ∀ v, yieldOut X.env v = yieldValue v := fun v => by simp only [yieldOut, hco, Bool.false_eq_true, if_false]
        simp only [hy]
        rw [Sem.bind_eq_wrap', Sem.bind_eq_wrap', Sem.wrap_wrap, Sem.wrap_wrap]
        refine seg_wrap ?_
        rw [← hA]
        refine noexc (he.run _ s7 σ6 H7 _ I7 q7) fun y s8 ⟨v, H8, I8, r8, zs', ez, hG, hN8⟩ => ?_
        subst ez
        obtain ⟨nx, hr'⟩ := hr.next
        obtain ⟨m', hm, w'⟩ := hN zs' σ6 H8 hN8
        obtain ⟨k1, k2⟩ := keepTn I8
        obtain ⟨p1, p2⟩ := pins_none I8 hs
        refine seg_at (seg_yield rfl rfl rfl ⟨v, nx, r8, ⟨σ6, H8, drop_pins I8, p1, hG⟩, p2, fun s'' hz => ?_⟩)
        refine seg_again rfl (ih m' hm (i + 1) zs' σ6 H8 s'' s'' w' hr' (woken F (drop_pins I8) p1 hz) hz.there ?_ k2)
        exact T.keep _ _ _ k1 fun b hb o e => hz.keep b o (hfS b hb) e
theorem gen_start {elt tg iter : Expr} {ifs : List Expr} {scope : Scope} {pos : Pos} {it : Addr} {cenv : Env} {R : GenEnd} {Y : Protocol} {n : Nat} {s₀ s : Shared}
    (self : ∀ (A : Around) (Q : Value → Shared → Prop) (E : Value → Shared → Prop), Q (.ref it) s → wpAny (model prog w) A (pyIter (.ref it)) Q E s)
    (h : Seg (model prog w) Z R Y n s₀ (.compLoop (.GeneratorExp elt [⟨tg, iter, ifs, 0⟩] scope pos) 0 (.ref it) .none cenv) ((model prog w).den (.compLoop (.GeneratorExp elt [⟨tg, iter, ifs, 0⟩] scope pos) 0 (.ref it) .none cenv)) [] s) :
    Seg (model prog w) Z R Y n s₀ (.compStart (.GeneratorExp elt [⟨tg, iter, ifs, 0⟩] scope pos) 0 (.ref it) .none cenv) ((model prog w).den (.compStart (.GeneratorExp elt [⟨tg, iter, ifs, 0⟩] scope pos) 0 (.ref it) .none cenv)) [] s := by
  show Seg _ Z _ _ _ s₀ _ ((compStart (.GeneratorExp elt [⟨tg, iter, ifs, 0⟩] scope pos) 0 (.ref it) .none cenv).onRaise (leaving cenv)) [] s
  unfold compStart
  rw [Sem.onRaise_eq_wrap]
  show Seg _ Z _ _ _ s₀ _ ((ask >>= _).wrap _ _ _ _) [] s
  refine seg_bind_wrap (wpAny_askSetting ?_)
  split
  · exact seg_again rfl h
  · first
      | exact seg_bind_wrap (wpAny_rule (seg_bind_wrap (wpAny_standAt (seg_bind_wrap (self _ _ _ (seg_again rfl h))))))
      | (refine seg_bind_wrap (wpAny_rule ?_); show Seg _ Z _ _ _ s₀ _ ((standAt iter.pos >>= _).wrap _ _ _ _) [] s; exact seg_bind_wrap (wpAny_standAt (seg_bind_wrap (self _ _ _ (seg_again rfl h)))))
end
end K22
end
section
set_option Elab.async false
set_option linter.all false
set_option maxRecDepth 100000
set_option maxHeartbeats 4000000
/-! K22GenD: the run of a generator expression of two clauses. -/
namespace K22
open PySem PySem.Spec PyProof.Rows L2 NdefX
theorem two_out (elt t0 i0 t1 i1 : Expr) (f0 f1 : List Expr) (scope : Scope) (pos : Pos) (it acc : Value) (env : Env) :
    compTurn (.GeneratorExp elt [⟨t0, i0, f0, 0⟩, ⟨t1, i1, f1, 0⟩] scope pos) 0 it acc env = (do
      standAt i0.pos
      match ← pyNext it with
      | none => pure (.done .next)
      | some v =>
        letOwnedTupleGo t0 it v
        assign t0 env v
        let mut ok := true
        for c in f0 do
          if ok then ok ← isTrue c env (eval c env)
        if ok then
          let x ← eval i1 env
          standAt i1.pos
          let x ← foldedSetIterable i1 env x
          let _ ← runOwn (.compStart (.GeneratorExp elt [⟨t0, i0, f0, 0⟩, ⟨t1, i1, f1, 0⟩] scope pos) 1 (← holding [x] (pyIter x)) acc env) env
        again (.compLoop (.GeneratorExp elt [⟨t0, i0, f0, 0⟩, ⟨t1, i1, f1, 0⟩] scope pos) 0 it acc env)) := by rfl
theorem two_in (elt t0 i0 t1 i1 : Expr) (f0 f1 : List Expr) (scope : Scope) (pos : Pos) (it acc : Value) (env : Env) :
    compTurn (.GeneratorExp elt [⟨t0, i0, f0, 0⟩, ⟨t1, i1, f1, 0⟩] scope pos) 1 it acc env = (do
      standAt i1.pos
      match ← pyNext it with
      | none => pure (.done .next)
      | some v =>
        letOwnedTupleGo t1 it v
        assign t1 env v
        let mut ok := true
        for c in f1 do
          if ok then ok ← isTrue c env (eval c env)
        if ok then
          (do let v ← eval elt env; standAt elt.pos; let _ ← yieldOut env v)
        again (.compLoop (.GeneratorExp elt [⟨t0, i0, f0, 0⟩, ⟨t1, i1, f1, 0⟩] scope pos) 1 it acc env)) := by rfl
/-- the reading of a turn of the inner loop; N: what holds behind it -/
def GTurnI (J : It) (g : TG) (tt : TT) (te : TE) (G : Hp → Prop) (N : List V → L2.St → Hp → Prop) (W : Nat → Nat → List V → L2.St → Hp → Prop) : Prop :=
  ∀ i m zs σ H, W i m zs σ H → (J.stop i H ∧ N zs σ H) ∨ (J.go i H ∧ ∃ N1 : List V → L2.St → Hp → Prop, (∀ zs' σ' H', N1 zs' σ' H' → ∃ m', m' < m ∧ W (i + 1) m' zs' σ' H') ∧
    ∀ x H', J.yld i H x H' → g x σ H' fun σ2 H2 => tt σ2 H2 fun b H3 => if b = true then te σ2 H3 fun v H4 => ∃ zs', zs = v :: zs' ∧ G H4 ∧ N1 zs' σ2 H4 else N1 zs σ2 H3)
def GTurn2 (J : It) (g : TG) (tt : TT) (wi1 : TI) (g1 : TG) (tt1 : TT) (te : TE) (G : Hp → Prop) (W : Nat → Nat → List V → L2.St → Hp → Prop) : Prop :=
  ∀ i m zs σ H, W i m zs σ H → (J.stop i H ∧ zs = [] ∧ G H) ∨ (J.go i H ∧ ∃ N : List V → L2.St → Hp → Prop, (∀ zs' σ' H', N zs' σ' H' → ∃ m', m' < m ∧ W (i + 1) m' zs' σ' H') ∧
    ∀ x H', J.yld i H x H' → g x σ H' fun σ2 H2 => tt σ2 H2 fun b H3 => if b = true then wi1 σ2 H3 fun J1 H4 => ∃ W1 : Nat → Nat → List V → L2.St → Hp → Prop, (∃ m1, W1 0 m1 zs σ2 H4) ∧ GTurnI J1 g1 tt1 te G N W1 else N zs σ2 H3)
section
variable {Z : Around} {X : Cx} {Ss : List Addr} {G : Hp → Prop} {ys : List V} {elt t0 i0 t1 i1 : Expr} {f0 f1 : List Expr} {scope : Scope} {pos : Pos} {it : Addr}
abbrev ge2 (elt t0 i0 t1 i1 : Expr) (f0 f1 : List Expr) (scope : Scope) (pos : Pos) : Expr := .GeneratorExp elt [⟨t0, i0, f0, 0⟩, ⟨t1, i1, f1, 0⟩] scope pos
/-- the loop of the inner clause, over the frame fs of the outer one -/
theorem in_loop {fs : List Frame} {it1 : Addr} {fp fp1 : List Addr} {tn tn1 : Nat → Heap → Prop} {J J1 : It} {g1 : TG} {tt1 : TT} {te : TE} {N : List V → L2.St → Hp → Prop} {W1 : Nat → Nat → List V → L2.St → Hp → Prop} {i : Nat}
    (hov : ∀ c : Code, c.weight = 0 → c.cUnits = 0 → Z.over c fs = X.A) (hsp : splitAtGen fs = none) (hgd : fs.any Frame.guarded = false) (hc : X.calm = true) (hx : X.xe = fun _ _ => False) (hco : X.env.scope.isCoroutine = false) (F : Far X Ss)
    (T : Turn X.prog X.w X.K t0 J fp it tn) (hfp : ∀ H : Hp, (∀ b ∈ fp, H b = none) → ∀ b ∈ fp, FpOk X [] H b) (hfS : ∀ b ∈ fp, b ∉ Ss)
    (T1 : Turn X.prog X.w X.K t1 J1 fp1 it1 tn1) (hfp1 : ∀ H : Hp, (∀ b ∈ fp1, H b = none) → ∀ b ∈ fp1, FpOk X [] H b) (hfS1 : ∀ b ∈ fp1, b ∉ Ss) (hff : ∀ b ∈ fp1, b ∉ fp)
    (hg : PG X t1 g1) (ht : PTs X f1 tt1) (he : PE X elt te) (hW : GTurnI J1 g1 tt1 te G N W1)
    (hend : ∀ (zs : List V) (σ : L2.St) (H : Hp) (s s₀ : Shared), N zs σ H → Rest ys zs → Inv X (pinsAt Ss s₀.heap) σ H s → Held Ss s₀ → tn (i + 1) s.heap → (∀ b ∈ fp, H b = none) →
      Seg (model X.prog X.w) Z (PR X Ss G) (PY X Ss G ys) zs.length s₀ (.compLoop (ge2 elt t0 i0 t1 i1 f0 f1 scope pos) 1 (.ref it1) .none X.env) (leafOf (.ok .next)) fs s) :
    ∀ (m j : Nat) (zs : List V) (σ : L2.St) (H : Hp) (s s₀ : Shared), W1 j m zs σ H → Rest ys zs → Inv X (pinsAt Ss s₀.heap) σ H s → Held Ss s₀ → tn (i + 1) s.heap → (∀ b ∈ fp, H b = none) → tn1 j s.heap → (∀ b ∈ fp1, H b = none) →
      Seg (model X.prog X.w) Z (PR X Ss G) (PY X Ss G ys) zs.length s₀ (.compLoop (ge2 elt t0 i0 t1 i1 f0 f1 scope pos) 1 (.ref it1) .none X.env)
        ((model X.prog X.w).den (.compLoop (ge2 elt t0 i0 t1 i1 f0 f1 scope pos) 1 (.ref it1) .none X.env)) fs s := by
  have hA : Z.over (.compLoop (ge2 elt t0 i0 t1 i1 f0 f1 scope pos) 1 (.ref it1) .none X.env) fs = X.A := hov _ rfl rfl
  have noexc : ∀ {α : Type} {t : Sem α} {Q Q' : α → Shared → Prop} {E : Value → Shared → Prop} {s : Shared}, wpAny (model X.prog X.w) X.A t Q X.xe s → (∀ a s, Q a s → Q' a s) → wpAny (model X.prog X.w) X.A t Q' E s := fun h hQ => wpAny_mono h hQ fun _ _ x => by
    rw [hx] at x
    exact x.elim
  have pinsNe : ∀ {s₀ s : Shared} (b : Addr), b ∉ Ss → b ∉ fp → ∀ p ∈ pinsAt Ss s₀.heap ++ pinsAt fp s.heap, p.1 ≠ b := fun b h1 h2 p hp z => by
    rcases List.mem_append.mp hp with hp | hp
    · have := (of_pinsAt hp).1
      rw [z] at this
      exact h1 this
    · have := (of_pinsAt hp).1
      rw [z] at this
      exact h2 this
  have fpS : ∀ {H : Hp} {s₀ : Shared}, (∀ b ∈ fp, H b = none) → ∀ b ∈ fp, FpOk X (pinsAt Ss s₀.heap) H b := fun hn b hb => by
    obtain ⟨f0, f1, f2, f3, f4, f5⟩ := hfp _ hn b hb
    refine ⟨f0, f1, f2, f3, f4, fun p hp z => ?_⟩
    rcases List.mem_append.mp hp with hp | hp
    · exact f5 p (List.mem_append_left _ hp) z
    · have := (of_pinsAt hp).1
      rw [z] at this
      exact hfS b hb this
  have fpS1 : ∀ {H : Hp} {s₀ s : Shared}, (∀ b ∈ fp1, H b = none) → ∀ b ∈ fp1, FpOk X (pinsAt Ss s₀.heap ++ pinsAt fp s.heap) H b := fun hn b hb => by
    obtain ⟨f0, f1, f2, f3, f4, f5⟩ := hfp1 _ hn b hb
    refine ⟨f0, f1, f2, f3, f4, fun p hp z => ?_⟩
    rcases List.mem_append.mp hp with hp | hp
    · exact f5 p (List.mem_append_left _ hp) z
    · exact pinsNe b (hfS1 b hb) (hff b hb) p hp z
  intro m
  induction m using Nat.strongRecOn with
  | ind m ih =>
    intro j zs σ H s s₀ w hr I hs st hn st1 hn1
    have Ip := I.pinned (fpS hn) (T.obj _ _ st)
    -- what the outer iterator's pins say
    have keepO : ∀ {pl : List (Addr × Obj)} {σ7 : L2.St} {H7 : Hp} {s7 : Shared}, Inv X ((pinsAt Ss s₀.heap ++ pinsAt fp s.heap) ++ pl) σ7 H7 s7 → tn (i + 1) s7.heap ∧ (∀ b ∈ fp, H7 b = none) ∧ Inv X (pinsAt Ss s₀.heap) σ7 H7 s7 := fun I7 => by
      refine ⟨T.keep _ _ _ st fun b hb o e => (I7.pin (b, o) (List.mem_append_right _ (List.mem_append_left _ (List.mem_append_right _ (mem_pinsAt hb e))))).1, fun b hb => ?_, I7.unpinned.unpinned⟩
      obtain ⟨o, e, d⟩ := T.obj _ _ st b hb
      exact (I7.pin (b, o) (List.mem_append_right _ (List.mem_append_left _ (List.mem_append_right _ (mem_pinsAt hb e))))).2.1
    show Seg _ Z _ _ _ s₀ _ ((compTurn (ge2 elt t0 i0 t1 i1 f0 f1 scope pos) 1 (.ref it1) .none X.env).onRaise (fun x => do noteFrame x X.env; theTreesLotGoes x)) fs s
    rw [two_in, Sem.onRaise_eq_wrap]
    refine seg_bind_wrap (wpAny_standAt ?_)
    rcases hW j m zs σ H w with ⟨stop, hN⟩ | ⟨go, N1, hN1, step⟩
    · refine seg_bind_wrap ?_
      rw [hA]
      refine thn (T1.done X rfl rfl rfl hc j _ s σ H _ Ip (fpS1 hn1) st1 stop) fun r s4 ⟨hr4, I4⟩ => ?_
      subst hr4
      have I4' : Inv X ((pinsAt Ss s₀.heap ++ pinsAt fp s.heap) ++ []) σ H s4 := by rw [List.append_nil]; exact I4
      obtain ⟨k1, k2, k3⟩ := keepO I4'
      exact hend zs σ H s4 s₀ hN hr k3 hs k1 k2
    · refine seg_bind_wrap ?_
      rw [hA]
      refine thn (T1.item X rfl rfl rfl hc j _ s σ H _ Ip (fpS1 hn1) st1 go) fun r s4 ⟨u, hr4, h4⟩ => ?_
      subst hr4
      refine seg_bind_wrap ?_
      rw [hA]
      refine thn h4 fun _ s5 ⟨x, H5, I5, r5, y5, st5, fr5⟩ => ?_
      have I5' := I5.pinned (fpS1 fr5) (T1.obj _ _ st5)
      have keep1 : ∀ {σ7 : L2.St} {H7 : Hp} {s7 : Shared}, Inv X ((pinsAt Ss s₀.heap ++ pinsAt fp s.heap) ++ pinsAt fp1 s5.heap) σ7 H7 s7 → tn1 (j + 1) s7.heap ∧ ∀ b ∈ fp1, H7 b = none := fun I7 => by
        refine ⟨T1.keep _ _ _ st5 fun b hb o e => (I7.pin (b, o) (List.mem_append_right _ (List.mem_append_right _ (mem_pinsAt hb e)))).1, fun b hb => ?_⟩
        obtain ⟨o, e, d⟩ := T1.obj _ _ st5 b hb
        exact (I7.pin (b, o) (List.mem_append_right _ (List.mem_append_right _ (mem_pinsAt hb e)))).2.1
      refine seg_bind_wrap ?_
      rw [hA]
      refine noexc (hg.run _ s5 σ H5 x u _ I5' r5 (step x H5 y5)) fun _ s6 ⟨σ6, H6, I6, q6⟩ => ?_
      refine seg_bind_wrap ?_
      rw [hA]
      refine noexc (ht.run _ s6 σ6 H6 _ I6 q6) fun b s7 ⟨H7, I7, q7⟩ => ?_
      cases b with
      | false =>
        simp only [Bool.false_eq_true, if_false] at q7 ⊢
        obtain ⟨m', hm, w'⟩ := hN1 zs σ6 H7 q7
        obtain ⟨k1, k2⟩ := keep1 I7
        obtain ⟨k3, k4, k5⟩ := keepO I7
        exact seg_again rfl (ih m' hm (j + 1) zs σ6 H7 s7 s₀ w' hr k5 hs k3 k4 k1 k2)
      | true =>
        simp only [if_true] at q7 ⊢
        have hy : ∀ v, yieldOut X.env v = yieldValue v := fun v => by simp only [yieldOut, hco, Bool.false_eq_true, if_false]
        simp only [hy]
        rw [Sem.bind_eq_wrap', Sem.bind_eq_wrap', Sem.wrap_wrap, Sem.wrap_wrap]
        refine seg_wrap ?_
        rw [hA]
        refine noexc (he.run _ s7 σ6 H7 _ I7 q7) fun y s8 ⟨v, H8, I8, r8, zs', ez, hG, hN8⟩ => ?_
        subst ez
        obtain ⟨nx, hr'⟩ := hr.next
        obtain ⟨m', hm, w'⟩ := hN1 zs' σ6 H8 hN8
        obtain ⟨k1, k2⟩ := keep1 I8
        obtain ⟨k3, k4, k5⟩ := keepO I8
        have k5' : Inv X (pinsAt Ss s₀.heap ++ []) σ6 H8 s8 := by rw [List.append_nil]; exact k5
        obtain ⟨p1, p2⟩ := pins_none k5' hs
        refine seg_at (seg_yield hsp rfl hgd ⟨v, nx, r8, ⟨σ6, H8, drop_pins I8, p1, hG⟩, p2, fun s'' hz => ?_⟩)
        refine seg_again rfl (ih m' hm (j + 1) zs' σ6 H8 s'' s'' w' hr' (woken F (drop_pins I8) p1 hz) hz.there ?_ k4 ?_ k2)
        · exact T.keep _ _ _ k3 fun b hb o e => hz.keep b o (hfS b hb) e
        · exact T1.keep _ _ _ k1 fun b hb o e => hz.keep b o (hfS1 b hb) e
theorem in_start {prog : Program} {w : World} {fs : List Frame} {it1 : Addr} {cenv : Env} {R : GenEnd} {Y : Protocol} {n : Nat} {s₀ s : Shared}
    (self : ∀ (A : Around) (Q : Value → Shared → Prop) (E : Value → Shared → Prop), Q (.ref it1) s → wpAny (model prog w) A (pyIter (.ref it1)) Q E s)
    (h : Seg (model prog w) Z R Y n s₀ (.compLoop (ge2 elt t0 i0 t1 i1 f0 f1 scope pos) 1 (.ref it1) .none cenv) ((model prog w).den (.compLoop (ge2 elt t0 i0 t1 i1 f0 f1 scope pos) 1 (.ref it1) .none cenv)) fs s) :
    Seg (model prog w) Z R Y n s₀ (.compStart (ge2 elt t0 i0 t1 i1 f0 f1 scope pos) 1 (.ref it1) .none cenv) ((model prog w).den (.compStart (ge2 elt t0 i0 t1 i1 f0 f1 scope pos) 1 (.ref it1) .none cenv)) fs s := by
  show Seg _ Z _ _ _ s₀ _ ((compStart (ge2 elt t0 i0 t1 i1 f0 f1 scope pos) 1 (.ref it1) .none cenv).onRaise (fun x => do noteFrame x cenv; standAt theWindowsPlace)) fs s
  unfold compStart
  rw [Sem.onRaise_eq_wrap]
  show Seg _ Z _ _ _ s₀ _ ((ask >>= _).wrap _ _ _ _) fs s
  refine seg_bind_wrap (wpAny_askSetting ?_)
  split
  · exact seg_again rfl h
  · refine seg_bind_wrap (wpAny_rule ?_)
    show Seg _ Z _ _ _ s₀ _ ((standAt i1.pos >>= _).wrap _ _ _ _) fs s
    exact seg_bind_wrap (wpAny_standAt (seg_bind_wrap (self _ _ _ (seg_again rfl h))))
theorem out_start {prog : Program} {w : World} {cenv : Env} {R : GenEnd} {Y : Protocol} {n : Nat} {s₀ s : Shared}
    (self : ∀ (A : Around) (Q : Value → Shared → Prop) (E : Value → Shared → Prop), Q (.ref it) s → wpAny (model prog w) A (pyIter (.ref it)) Q E s)
    (h : Seg (model prog w) Z R Y n s₀ (.compLoop (ge2 elt t0 i0 t1 i1 f0 f1 scope pos) 0 (.ref it) .none cenv) ((model prog w).den (.compLoop (ge2 elt t0 i0 t1 i1 f0 f1 scope pos) 0 (.ref it) .none cenv)) [] s) :
    Seg (model prog w) Z R Y n s₀ (.compStart (ge2 elt t0 i0 t1 i1 f0 f1 scope pos) 0 (.ref it) .none cenv) ((model prog w).den (.compStart (ge2 elt t0 i0 t1 i1 f0 f1 scope pos) 0 (.ref it) .none cenv)) [] s := by
  show Seg _ Z _ _ _ s₀ _ ((compStart (ge2 elt t0 i0 t1 i1 f0 f1 scope pos) 0 (.ref it) .none cenv).onRaise (leaving cenv)) [] s
  unfold compStart
  rw [Sem.onRaise_eq_wrap]
  show Seg _ Z _ _ _ s₀ _ ((ask >>= _).wrap _ _ _ _) [] s
  refine seg_bind_wrap (wpAny_askSetting ?_)
  split
  · exact seg_again rfl h
  · refine seg_bind_wrap (wpAny_rule ?_)
    show Seg _ Z _ _ _ s₀ _ ((standAt i0.pos >>= _).wrap _ _ _ _) [] s
    exact seg_bind_wrap (wpAny_standAt (seg_bind_wrap (self _ _ _ (seg_again rfl h))))
/-- the loop of the outer clause -/
theorem out_loop {fp : List Addr} {tn : Nat → Heap → Prop} {J : It} {g g1 : TG} {tt tt1 : TT} {te : TE} {wi1 : TI} {W : Nat → Nat → List V → L2.St → Hp → Prop}
    (hA : X.A = Z.over (.compLoop (ge2 elt t0 i0 t1 i1 f0 f1 scope pos) 0 (.ref it) .none X.env) []) (hc : X.calm = true) (hx : X.xe = fun _ _ => False) (hco : X.env.scope.isCoroutine = false) (F : Far X Ss)
    (T : Turn X.prog X.w X.K t0 J fp it tn) (hfp : ∀ H : Hp, (∀ b ∈ fp, H b = none) → ∀ b ∈ fp, FpOk X [] H b) (hfS : ∀ b ∈ fp, b ∉ Ss)
    (hg : PG X t0 g) (ht : PTs X f0 tt) (hi1 : PI X t1 i1 wi1) (hs1 : ∀ x, foldedSetIterable i1 X.env x = pure x) (hg1 : PG X t1 g1) (ht1 : PTs X f1 tt1) (he : PE X elt te) (hW : GTurn2 J g tt wi1 g1 tt1 te G W) :
    ∀ (m i : Nat) (zs : List V) (σ : L2.St) (H : Hp) (s s₀ : Shared), W i m zs σ H → Rest ys zs → Inv X (pinsAt Ss s₀.heap) σ H s → Held Ss s₀ → tn i s.heap → (∀ b ∈ fp, H b = none) →
      Seg (model X.prog X.w) Z (PR X Ss G) (PY X Ss G ys) zs.length s₀ (.compLoop (ge2 elt t0 i0 t1 i1 f0 f1 scope pos) 0 (.ref it) .none X.env)
        ((model X.prog X.w).den (.compLoop (ge2 elt t0 i0 t1 i1 f0 f1 scope pos) 0 (.ref it) .none X.env)) [] s := by
  have noexc : ∀ {α : Type} {t : Sem α} {Q Q' : α → Shared → Prop} {E : Value → Shared → Prop} {s : Shared}, wpAny (model X.prog X.w) X.A t Q X.xe s → (∀ a s, Q a s → Q' a s) → wpAny (model X.prog X.w) X.A t Q' E s := fun h hQ => wpAny_mono h hQ fun _ _ x => by
    rw [hx] at x
    exact x.elim
  have fpS : ∀ {H : Hp} {s₀ : Shared}, (∀ b ∈ fp, H b = none) → ∀ b ∈ fp, FpOk X (pinsAt Ss s₀.heap) H b := fun hn b hb => by
    obtain ⟨f0, f1, f2, f3, f4, f5⟩ := hfp _ hn b hb
    refine ⟨f0, f1, f2, f3, f4, fun p hp z => ?_⟩
    rcases List.mem_append.mp hp with hp | hp
    · exact f5 p (List.mem_append_left _ hp) z
    · have := (of_pinsAt hp).1
      rw [z] at this
      exact hfS b hb this
  intro m
  induction m using Nat.strongRecOn with
  | ind m ih =>
    intro i zs σ H s s₀ w hr I hs st hn
    show Seg _ Z _ _ _ s₀ _ ((compTurn (ge2 elt t0 i0 t1 i1 f0 f1 scope pos) 0 (.ref it) .none X.env).onRaise (leaving X.env)) [] s
    rw [two_out, Sem.onRaise_eq_wrap]
    refine seg_bind_wrap (wpAny_standAt ?_)
    rcases hW i m zs σ H w with ⟨stop, hz, hG⟩ | ⟨go, N, hN, step⟩
    · subst hz
      refine seg_bind_wrap ?_
      rw [← hA]
      refine thn (T.done X rfl rfl rfl hc i _ s σ H _ I (fpS hn) st stop) fun r s4 ⟨hr, I4⟩ => ?_
      subst hr
      have I4' : Inv X (pinsAt Ss s₀.heap ++ []) σ H s4 := by rw [List.append_nil]; exact I4
      obtain ⟨p1, p2⟩ := pins_none I4' hs
      exact seg_end (.ok .next) ⟨rfl, rfl, ⟨σ, H, drop_pins I4, p1, hG⟩, p2⟩
    · refine seg_bind_wrap ?_
      rw [← hA]
      refine thn (T.item X rfl rfl rfl hc i _ s σ H _ I (fpS hn) st go) fun r s4 ⟨u, hr4, h4⟩ => ?_
      subst hr4
      refine seg_bind_wrap ?_
      rw [← hA]
      refine thn h4 fun _ s5 ⟨x, H5, I5, r5, y5, st5, fr5⟩ => ?_
      have I5' := I5.pinned (fpS fr5) (T.obj _ _ st5)
      have keepTn : ∀ {pl : List (Addr × Obj)} {σ7 : L2.St} {H7 : Hp} {s7 : Shared}, Inv X ((pinsAt Ss s₀.heap ++ pinsAt fp s5.heap) ++ pl) σ7 H7 s7 → tn (i + 1) s7.heap ∧ (∀ b ∈ fp, H7 b = none) ∧ Inv X (pinsAt Ss s₀.heap) σ7 H7 s7 := fun I7 => by
        refine ⟨T.keep _ _ _ st5 fun b hb o e => (I7.pin (b, o) (List.mem_append_right _ (List.mem_append_left _ (List.mem_append_right _ (mem_pinsAt hb e))))).1, fun b hb => ?_, I7.unpinned.unpinned⟩
        obtain ⟨o, e, d⟩ := T.obj _ _ st5 b hb
        exact (I7.pin (b, o) (List.mem_append_right _ (List.mem_append_left _ (List.mem_append_right _ (mem_pinsAt hb e))))).2.1
      refine seg_bind_wrap ?_
      rw [← hA]
      refine noexc (hg.run _ s5 σ H5 x u _ I5' r5 (step x H5 y5)) fun _ s6 ⟨σ6, H6, I6, q6⟩ => ?_
      refine seg_bind_wrap ?_
      rw [← hA]
      refine noexc (ht.run _ s6 σ6 H6 _ I6 q6) fun b s7 ⟨H7, I7, q7⟩ => ?_
      cases b with
      | false =>
        simp only [Bool.false_eq_true, if_false] at q7 ⊢
        obtain ⟨m', hm, w'⟩ := hN zs σ6 H7 q7
        have I7' : Inv X ((pinsAt Ss s₀.heap ++ pinsAt fp s5.heap) ++ []) σ6 H7 s7 := by rw [List.append_nil]; exact I7
        obtain ⟨k1, k2, k3⟩ := keepTn I7'
        exact seg_again rfl (ih m' hm (i + 1) zs σ6 H7 s7 s₀ w' hr k3 hs k1 k2)
      | true =>
        simp only [if_true] at q7 ⊢
        refine seg_bind_wrap ?_
        rw [← hA]
        refine noexc (hi1.run _ s7 σ6 H7 _ I7 q7) fun xv s8 h8 => ?_
        refine seg_bind_wrap (wpAny_standAt ?_)
        rw [hs1 xv]
        refine seg_bind_wrap (wpAny_pure ?_)
        refine seg_bind_wrap (wpAny_holding ?_)
        rw [← hA]
        refine noexc h8 fun itv s9 h9 => ?_
        obtain ⟨it1, fp1, tn1, J1, H9, e9, I9, T1, st9, f9, W1, ⟨m1, w1⟩, hW1⟩ := h9
        subst e9
        have I9' : Inv X ((pinsAt Ss s₀.heap ++ pinsAt fp s5.heap) ++ []) σ6 H9 s9 := by rw [List.append_nil]; exact I9
        obtain ⟨k1, k2, k3⟩ := keepTn I9'
        refine seg_call fun p => ?_
        refine in_start (fun A Q E hq => T1.self A 0 s9 Q E st9 hq) ?_
        refine in_loop (i := i) (fun c hw hu => (GenW.over_loop hw hu).trans hA.symm) rfl rfl hc hx hco F T hfp hfS T1 (fun H hn b hb => ?_) (fun b hb hm => ?_) (fun b hb hm => ?_) hg1 ht1 he hW1 (fun zs' σ' H' s' s₀' hN' hr' I' hs' st' hn' => ?_) m1 0 zs σ6 H9 s9 s₀ w1 hr k3 hs k1 k2 st9 (fun b hb => (f9 b hb).1)
        · obtain ⟨q0, q1, q2, q3, q4, q5⟩ := f9 b hb
          refine ⟨hn b hb, q1, q2, q3, q4, fun p hp => q5 p ?_⟩
          rw [List.append_nil] at hp
          exact List.mem_append_left _ hp
        · obtain ⟨q0, q1, q2, q3, q4, q5⟩ := f9 b hb
          obtain ⟨o, e, _⟩ := hs b hm
          exact q5 (b, o) (List.mem_append_right _ (List.mem_append_left _ (mem_pinsAt hm e))) rfl
        · obtain ⟨q0, q1, q2, q3, q4, q5⟩ := f9 b hb
          obtain ⟨o, e, _⟩ := T.obj _ _ st5 b hm
          exact q5 (b, o) (List.mem_append_right _ (List.mem_append_right _ (mem_pinsAt hm e))) rfl
        · obtain ⟨m', hm, w'⟩ := hN zs' σ' H' hN'
          refine seg_leaf (.ok .next) ?_
          exact seg_again rfl (ih m' hm (i + 1) zs' σ' H' s' s₀' w' hr' I' hs' st' hn')
end
end K22
end
section
set_option Elab.async false
set_option linter.all false
set_option maxRecDepth 100000
set_option maxHeartbeats 4000000
/-! K22GenE: a generator expression is made; it is an iterator that gives ys. -/
namespace K22
open PySem PySem.Spec PyProof.Rows L2 NdefX
/-! ### the generator at a -/
theorem bare_set {s : Shared} {g : Nat} {x : GenState} (h : AllBare s.gens) (hx : x.bare = true) : AllBare (s.setGen g x).gens := fun y hy => by
  have hy : y ∈ s.gens.setIfInBounds g x := hy
  obtain ⟨i, hi, e⟩ := Array.mem_iff_getElem.mp hy
  have hi' : i < s.gens.size := by
    rw [Array.size_setIfInBounds] at hi
    exact hi
  rw [Array.getElem_setIfInBounds hi'] at e
  split at e
  · rw [← e]; exact hx
  · rw [← e]
    exact h _ (Array.getElem_mem hi')
theorem set_at {s : Shared} {g : Nat} {x : GenState} (h : g < s.gens.size) : (s.setGen g x).gens[g]? = some x := by
  show (s.gens.setIfInBounds g x)[g]? = some x
  rw [Array.getElem?_setIfInBounds, if_pos rfl, if_pos h]
theorem glive_moved {X : Cx} {Ss : List Addr} {G : Hp → Prop} {s s' : Shared} (h : GLive X Ss G s) (z : Doze [] s s') : GLive X Ss G s' := by
  obtain ⟨σ, H, I, h1, h2⟩ := h
  exact ⟨σ, H, inv_doze I (fun b hb => absurd hb (by simp)) z, h1, h2⟩
theorem glive_doze {X : Cx} {Ss : List Addr} {G : Hp → Prop} {s s' : Shared} (F : Far X Ss) (h : GLive X Ss G s) (z : Doze Ss s s') : GLive X Ss G s' := by
  obtain ⟨σ, H, I, h1, h2⟩ := h
  exact ⟨σ, H, inv_doze I (fun b hb => ⟨h1 b hb, F.new b hb, F.loc b hb, F.cell b hb, fun p hp => by
    rw [List.append_nil] at hp
    exact F.pn b hb p hp⟩) z, h1, h2⟩
def GSt (X : Cx) (Z : Around) (Ss : List Addr) (G : Hp → Prop) (ys : List V) (g : Nat) (n : Nat) (s : Shared) : Prop :=
  n ≤ ys.length ∧ GLive X Ss G s ∧ ∃ gs, s.gens[g]? = some gs ∧ ∀ s', Doze Ss s s' → gs.Goes (model X.prog X.w) Z (PR X Ss G) (PY X Ss G ys) n (.send .none) s'
theorem doze_gens {Ss : List Addr} {s : Shared} {g : Nat} {x : GenState} (hs : Held Ss s) (h : AllBare s.gens) (hx : x.bare = true) : Doze Ss s (s.setGen g x) := ⟨rfl, bare_set h hx, fun _ _ _ e => e, hs⟩
theorem gen_gw {X : Cx} {B : Around} {Ss : List Addr} {G : Hp → Prop} {ys : List V} {a : Addr} {g : Nat} {oa : Obj} (hh : B.handled = none) (hroom : B.depth < recursionLimit) (F : Far X Ss) (hpn : (a, oa) ∈ X.pn)
    (hoa : oa.cls = .type "generator" ∧ (∃ nm qn, oa.data = .fields #[.int g 0, nm, qn]) ∧ oa.slots = #[]) : GW X.prog X.w B a Ss ys (GSt X B.in1 Ss G ys g) (GLive X Ss G) := by
  have bareOf : ∀ s, GLive X Ss G s → AllBare s.gens := fun s ⟨σ, H, I, _, _⟩ => I.bare
  have isGen : ∀ s, GLive X Ss G s → s.heap.IsGen a g := fun s ⟨σ, H, I, _, _⟩ => by
    obtain ⟨h1, ⟨nm, qn, h2⟩, h3⟩ := hoa
    exact ⟨oa, nm, qn, (I.pin (a, oa) (List.mem_append_left _ hpn)).1, h1, h2, h3⟩
  have noLim : ∀ s, GLive X Ss G s → s.heap.NoLimit := fun s ⟨σ, H, I, _, _⟩ => I.nolimit
  refine ⟨fun n s Q E hst held hQ => ?_, fun s Q E hst held hQ => ?_, fun n s h => h.2.1, bareOf, fun n s s' h z hgs' => ?_, fun s s' h z => glive_doze F h z⟩
  · obtain ⟨hn, live, gs, hgs, goes⟩ := hst
    have hlt : g < s.gens.size := (Array.getElem?_eq_some_iff.mp hgs).1
    refine GenW.wpAny_gsz (n := g + 1) hlt ?_
    refine wpAny_pyNext_genexpQ (n := n + 1) (P := fun n s₀ s₁ => n = 0 ∧ GLive X Ss G s₁ ∧ SameAt Ss s₀ s₁) hh (noLim s live) hroom (isGen s live) hgs (goes _ (doze_gens held (bareOf s live) rfl)) (fun v s₁ gs' hb hv hsz => ?_) fun s₁ hp h' hk => ?_
    · obtain ⟨z, hz, rv, live1, same1, hkap⟩ := hv
      have hlt1 : g < s₁.gens.size := by
        have e : (s₁.setGen g gs').gens.size = s₁.gens.size := GenW.setGen_size s₁ g gs'
        have hsz' : g + 1 ≤ (s₁.setGen g gs').gens.size := hsz
        omega
      have dz : Doze [] s₁ (s₁.setGen g gs') := ⟨rfl, bare_set (bareOf s₁ live1) hb, fun _ _ _ e => e, fun b hb => absurd hb (by simp)⟩
      refine hQ z v _ hz rv ⟨by omega, glive_moved live1 dz, gs', set_at hlt1, fun s' hd => ?_⟩ fun b hb o e => same1 b hb o e
      exact hkap s' ⟨hd.os, hd.bare, fun b o hb e => hd.keep b o hb e, hd.there⟩
    · exact absurd hp.1 (Nat.succ_ne_zero n)
  · obtain ⟨hn, live, gs, hgs, goes⟩ := hst
    refine wpAny_pyNext_genexpQ (n := 0) (P := fun n s₀ s₁ => n = 0 ∧ GLive X Ss G s₁ ∧ SameAt Ss s₀ s₁) hh (noLim s live) hroom (isGen s live) hgs (goes _ (doze_gens held (bareOf s live) rfl)) (fun v s₁ gs' hb hv => ?_) fun s₁ hp h' hk => ?_
    · obtain ⟨z, hz, rv, live1, same1, hkap⟩ := hv
      obtain ⟨σ, H, I, h1, h2⟩ := id live1
      have held1 : Held Ss s₁ := fun b hb => by
        obtain ⟨o, e, d⟩ := held b hb
        exact ⟨o, same1 b hb o e, d⟩
      exact (hkap s₁ ⟨rfl, bareOf s₁ live1, fun _ _ _ e => e, held1⟩).elim
    · obtain ⟨_, live1, same1⟩ := hp
      refine hQ _ (glive_moved live1 ⟨rfl, bare_set (bareOf s₁ live1) rfl, fun b o _ e => hk b o e, fun b hb => absurd hb (by simp)⟩) fun b hb o e => hk b o (same1 b hb o e)
  · obtain ⟨hn, live, gs, hgs, goes⟩ := h
    exact ⟨hn, glive_doze F live z, gs, by rw [hgs']; exact hgs, fun s'' z' => goes s'' (z.trans z')⟩
/-! ### the making -/
theorem eval_ge (elt tg iter : Expr) (ifs : List Expr) (rest : List Comprehension) (scope : Scope) (pos : Pos) (env : Env) (hco : scope.isCoroutine = false) :
    eval (.GeneratorExp elt (⟨tg, iter, ifs, 0⟩ :: rest) scope pos) env = (do
      let x ← eval iter env
      standAt iter.pos
      let x ← genFold iter env x
      let it ← holding [x] (pyIter x)
      enterFrame
      let cl ← closureFor scope env
      let code ← genexprCode env pos (env.qual ++ "<genexpr>") scope
      let bi ← builtinsFor env.globals env.builtins
      let cenv ← newFunctionEnv scope env.globals cl [(".0", it)] (env.qual ++ "<genexpr>.") none code none bi
      newGenerator (.compStart (.GeneratorExp elt (⟨tg, iter, ifs, 0⟩ :: rest) scope pos) 0 it .none cenv) "<genexpr>" (env.qual ++ "<genexpr>")) := by
  rw [arm_eval_GeneratorExp]
  simp only [hco, Bool.false_eq_true, if_false]
  cases iter <;> rfl
section
variable {X : Cx} {pins : List (Addr × Obj)} {σ : L2.St} {H : Hp} {s : Shared}
/-- the generator at g, just made in s5, to be walked from X.A.in1; H2: what was held when it was made -/
def Ready (X : Cx) (pins : List (Addr × Obj)) (σ : L2.St) (ys : List V) (G : Hp → Prop) (a : Addr) (s5 : Shared) : Prop :=
  ∀ Ss : List Addr, (∀ b ∈ Ss, s5.heap.objs.size ≤ b) → ∃ (St : Nat → Shared → Prop) (Out : Shared → Prop), GW X.prog X.w X.A.in1 a Ss ys St Out ∧ St ys.length s5 ∧ (∀ s', Out s' → ∃ H3, G H3 ∧ Inv X pins σ H3 s') ∧
    ∀ (Q : Value → Shared → Prop) (E : Value → Shared → Prop), Q (.ref a) s5 → wpAny (model X.prog X.w) X.A.in1 (pyIter (.ref a)) Q E s5
/-- the generator is made: its table may have grown, its first iterator lies ready; what is then to be shown -/
theorem gen_make {c P : Addr} {elt tg iter : Expr} {ifs : List Expr} {rest : List Comprehension} {scope : Scope} {gpos : Pos} {N fr : List Str} {k : Nat} {wi : TI} {R : It → Hp → Prop} {Q' : Value → Shared → Prop}
    (hr : Room k X.A) (TB : GxR.TabB X.base X.mg c P) (hcode : X.env.code = .ref c) (S : GScope N fr scope) (hfree : ∀ y ∈ scope.names, y.2 = .free → X.env.scope.names.lookup y.1 = some .cell ∨ X.env.scope.names.lookup y.1 = some .free)
    (hi : PI X tg iter wi) (hs : ∀ v, genFold iter X.env v = pure v) (I : Inv X pins σ H s) (h : wi σ H fun J H1 => GxR.TabG H1 P ∧ ∀ H2, GxR.Tabbed P H1 H2 → R J H2)
    (hQ : ∀ (J : It) (H2 : Hp) (s4 : Shared) (it : Addr) (fp : List Addr) (tn : Nat → Heap → Prop) (code : Value) (h5 : Heap) (tk : Nat) (a : Addr) (oa : Obj), R J H2 → Inv X pins σ H2 s4 → Turn X.prog X.w X.K tg J fp it tn → tn 0 s4.heap →
      (∀ b ∈ fp, FpOk X pins H2 b ∧ b < s4.heap.objs.size) → s4.heap.objs.size < a → h5.objs.size = a + 1 → (∀ b o, s4.heap.get? b = some o → h5.get? b = some o) → h5.Ns s4.heap.objs.size (fun y => if y = ".0" then some (.ref it) else none) → h5.get? a = some oa →
      (oa.cls = .type "generator" ∧ (∃ nm qn, oa.data = .fields #[.int s4.gens.size 0, nm, qn]) ∧ oa.slots = #[]) →
      Q' (.ref a) { s4 with gens := s4.gens.push (.fresh (.compStart (.GeneratorExp elt (⟨tg, iter, ifs, 0⟩ :: rest) scope gpos) 0 (.ref it) .none (genEnv scope (cloFrom X.env.cells scope.names []) s4.heap.objs.size code builtinsNs X.env))), toks := tk, heap := h5 }) :
    wpAny (model X.prog X.w) X.A (eval (.GeneratorExp elt (⟨tg, iter, ifs, 0⟩ :: rest) scope gpos) X.env) Q' X.xe s := by
  have hcap : ∀ y ∈ scope.names, y.2 = .free → ∃ c, X.env.cells.lookup y.1 = some c := fun y hy e => (hfree y hy e).elim (fun z => I.ok.has _ (.inl z)) fun z => I.ok.has _ (.inr z)
  rw [eval_ge _ _ _ _ _ _ _ _ S.co, closure_ok hcap]
  refine wpAny_bind (thn (hi.run pins s σ H _ I h) fun xv s1 h1 => ?_)
  refine wpAny_bind (wpAny_standAt ?_)
  refine wpAny_bind (wpAny_of_eq (hs xv) ?_)
  refine wpAny_bind (wpAny_holding (thn h1 fun itv s2 h2 => ?_))
  obtain ⟨it, fp, tn, J, H1, rfl, I1, T, st2, f2, ⟨ps, hP, htri⟩, hR⟩ := h2
  refine wpAny_bind (wpAny_enterFrame I1.nolimit (by have := hr.dp; omega) ?_)
  refine wpAny_bind (wpAny_pure ?_)
  have hPs : s2.heap.get? P = some { cls := .none, data := .fields ps } := I1.hok P _ hP
  have cd : PySem.W.CodeHd s2.heap c P := TB.code.keeps I1.bk
  have fpNe : ∀ b ∈ fp, b ≠ P := fun b hb z => by
    have q := (f2 b hb).1
    rw [z, hP] at q
    cases q
  have cont : ∀ (code : Value) (s3 : Shared) (H2 : Hp), Inv X pins σ H2 s3 → GxR.Tabbed P H1 H2 → tn 0 s3.heap → (∀ b ∈ fp, H2 b = none) → (∀ b ∈ fp, b < s3.heap.objs.size) →
      wpAny (model X.prog X.w) X.A (builtinsFor X.env.globals X.env.builtins) (fun bi s4 => wpAny (model X.prog X.w) X.A (do
        let cenv ← newFunctionEnv scope X.env.globals (cloFrom X.env.cells scope.names []) [(".0", .ref it)] (X.env.qual ++ "<genexpr>.") none code none bi
        newGenerator (.compStart (.GeneratorExp elt (⟨tg, iter, ifs, 0⟩ :: rest) scope gpos) 0 (.ref it) .none cenv) "<genexpr>" (X.env.qual ++ "<genexpr>")) Q' X.xe s4) X.xe s3 := by
    intro code s3 H2 I3 hT st3 fn3 flt
    obtain ⟨bm, ob, e1, e2, e3, e4, e5, e6, e7, e8⟩ := TB.bm
    refine wpAny_builtinsFor (m := X.mg) (by rw [I3.ok.glob]; exact I3.mod.glob.keeps I3.bk) e1 e2 (I3.bk _ _ e5) e6 e7 e8 ?_
    have hbinds : ∀ y ∈ ([((".0" : Str), Value.ref it)] : List (Str × Value)), scope.names.lookup y.1 = some NameKind.local := fun y hy => by
      rw [List.mem_singleton.mp hy]
      exact S.dot
    refine wpAny_bind (wpAny_newFunctionEnv S.nocell hbinds (fun h' hn' hs' => ?_) S.kind)
    have e : (fun y : Str => ([((".0" : Str), Value.ref it)] : List (Str × Value)).reverse.lookup y) = fun y : Str => if y = (".0" : Str) then some (.ref it) else none := by
      funext y
      by_cases hy : y = ".0"
      · subst hy; simp
      · have : (y == (".0" : Str)) = false := by simpa using hy
        simp [List.lookup, this, hy]
    rw [e] at hn'
    simp only [newGenerator, newFields]
    refine wpAny_bind (wpAny_newGen (wpAny_bind (wpAny_mkText (wpAny_bind (wpAny_mkText (wpAny_newObj_type ?_ (by size_fits)))))))
    have hsz : h'.objs.size = s3.heap.objs.size + 1 := by rw [hs'.1, Heap.size_push]
    have keep' : ∀ b o, s3.heap.get? b = some o → h'.get? b = some o := fun b o e => hs'.extBut b o (Nat.ne_of_lt (Heap.lt_size e)) (Heap.get?_push_of_some _ e)
    refine hQ J H2 s3 it fp tn code _ _ h'.objs.size _ (hR H2 hT) I3 T st3 (fun b hb => ⟨⟨fn3 b hb, (f2 b hb).2⟩, flt b hb⟩) (by rw [hsz]; exact Nat.lt_succ_self _) (by rw [Heap.size_push]) (fun b o e => Heap.get?_push_of_some _ (keep' b o e)) (hn'.push _) (Heap.get?_push_size _ rfl) ⟨rfl, ⟨_, _, rfl⟩, rfl⟩
  have flt2 : ∀ b ∈ fp, b < s2.heap.objs.size := fun b hb => by
    obtain ⟨o, e, _⟩ := T.obj 0 _ st2 b hb
    exact Heap.lt_size e
  cases hf : codeAmong gpos ps.toList with
  | none =>
    refine wpAny_bind (wpAny_genexprCodeX hcode (cd.code hPs htri) (cd.tab hPs) hf fun c' h' tk hx hge hlt hco' _ htab' _ => ?_)
    obtain ⟨o1, vs, f1, tf, fl, tg', inF, tx, tt, op, _, _, _, _, _, _, _, _, _, htr, _⟩ := hco'
    have J2 := GxR.inv_tab (more := #[rawInt gpos.line, rawInt gpos.col, .ref c']) (h' := h') (g' := s2.gens) (d' := s2.drawn) (t' := tk) I1 hP (fun b u hb e => hx b u hb e) htab'.2 I1.bare
    refine wpAny_bind (thn (cont (.ref c') _ _ J2 ⟨⟨_, upd_same, htr⟩, fun b hb => upd_ne hb⟩ (T.keep 0 _ _ st2 fun b hb o e => hx b o (fpNe b hb) e) (fun b hb => by rw [upd_ne (fpNe b hb)]; exact (f2 b hb).1) fun b hb => ?_) fun _ _ q => q)
    exact Nat.lt_trans (Nat.lt_of_lt_of_le (flt2 b hb) hge) hlt
  | some cv =>
    refine wpAny_bind (wpAny_genexprCode_hit hcode (cd.code hPs htri) hf ?_)
    exact wpAny_bind (thn (cont cv s2 H1 I1 ⟨⟨ps, hP, htri⟩, fun b _ => rfl⟩ st2 (fun b hb => (f2 b hb).1) flt2) fun _ _ q => q)
end
end K22
end
section
set_option Elab.async false
set_option linter.all false
set_option maxRecDepth 100000
set_option maxHeartbeats 4000000
/-! K22GenF: any, all, sum, min of generator expressions as rules. -/
namespace K22
open PySem PySem.Spec PyProof.Rows L2 NdefX
theorem nat_le {x a b : Nat} (h1 : x < a) (h2 : a + 1 ≤ b) : x ≤ b := by omega
theorem nat_ne {x a b : Nat} (h1 : x < a) (h2 : a + 1 ≤ b) (h3 : b = x) : False := by omega
theorem nat_lt {x y a b : Nat} (h1 : x < a) (h2 : a + 1 ≤ b) (h3 : y < x) (h4 : y = b) : False := by omega
theorem nat_self {a b : Nat} (h2 : a + 1 ≤ b) (h3 : a = b) : False := by omega
theorem nat_lt2 {x a b : Nat} (h1 : x < a) (h2 : b < x) (h3 : a = b) : False := by omega
section
variable {X : Cx} {pins : List (Addr × Obj)} {σ : L2.St} {H : Hp} {s : Shared}
/-- the generator's own around -/
abbrev gAr (X : Cx) (e : Expr) (it : Addr) (cenv : Env) : Around := X.A.in1.in1.over (.compLoop e 0 (.ref it) .none cenv) []
theorem gar_room {elt : Expr} {gens : List Comprehension} {scope : Scope} {pos : Pos} {it : Addr} {cenv : Env} {k : Nat} (hr : Room (k + 1) X.A) : Room k (gAr X (.GeneratorExp elt gens scope pos) it cenv) := by
  have h1 : (gAr X (.GeneratorExp elt gens scope pos) it cenv).depth = X.A.depth + 1 := rfl
  have h2 : (gAr X (.GeneratorExp elt gens scope pos) it cenv).units = X.A.units + 1 + 1 + 3 := rfl
  exact ⟨hr.hd, by rw [h1]; have := hr.dp; omega, by rw [h2]; have := hr.un; omega⟩
theorem gar_frames {elt : Expr} {gens : List Comprehension} {scope : Scope} {pos : Pos} {it : Addr} {cenv : Env} {l : List Env} (h : X.A.frames = some l) : (gAr X (.GeneratorExp elt gens scope pos) it cenv).frames = some (cenv :: l) := by
  show pushEnvs [cenv] (pushEnvs [] X.A.frames) = _
  rw [h]
  rfl
theorem ready_of {elt tg iter : Expr} {ifs : List Expr} {rest : List Comprehension} {scope : Scope} {gpos : Pos} {N fr : List Str} {js : List Nat} {k : Nat} {ys : List V} {G : Hp → Prop} {H2 : Hp} {s4 : Shared} {it : Addr} {fp : List Addr} {tn : Nat → Heap → Prop} {J : It} {code : Value} {h5 : Heap} {tk : Nat} {a : Addr} {oa : Obj}
    (hr : Room k X.A) (S : GScope N fr scope) (cp : Caps X (cloFrom X.env.cells scope.names []) fr js) (I4 : Inv X pins σ H2 s4) (T : Turn X.prog X.w X.K tg J fp it tn) (st : tn 0 s4.heap) (hfp : ∀ b ∈ fp, FpOk X pins H2 b ∧ b < s4.heap.objs.size)
    (ha : s4.heap.objs.size < a) (h5sz : h5.objs.size = a + 1) (kp : ∀ b o, s4.heap.get? b = some o → h5.get? b = some o) (hns : h5.Ns s4.heap.objs.size (fun y => if y = ".0" then some (.ref it) else none)) (hoa : h5.get? a = some oa)
    (ho : oa.cls = .type "generator" ∧ (∃ nm qn, oa.data = .fields #[.int s4.gens.size 0, nm, qn]) ∧ oa.slots = #[]) (hG : G H2)
    (hloop : ∀ Ss, Far (gcx X (gAr X (.GeneratorExp elt (⟨tg, iter, ifs, 0⟩ :: rest) scope gpos) it (genEnv scope (cloFrom X.env.cells scope.names []) s4.heap.objs.size code builtinsNs X.env)) N s4 H2 (genEnv scope (cloFrom X.env.cells scope.names []) s4.heap.objs.size code builtinsNs X.env) fp [(a, oa)]) Ss →
      (∀ b ∈ fp, b ∉ Ss) → ∀ s'', Inv (gcx X (gAr X (.GeneratorExp elt (⟨tg, iter, ifs, 0⟩ :: rest) scope gpos) it (genEnv scope (cloFrom X.env.cells scope.names []) s4.heap.objs.size code builtinsNs X.env)) N s4 H2 (genEnv scope (cloFrom X.env.cells scope.names []) s4.heap.objs.size code builtinsNs X.env) fp [(a, oa)]) (pinsAt Ss s''.heap) (startG N (js.map (slotAt σ))) H2 s'' →
        Held Ss s'' → tn 0 s''.heap →
        Seg (model X.prog X.w) X.A.in1.in1 (PR (gcx X (gAr X (.GeneratorExp elt (⟨tg, iter, ifs, 0⟩ :: rest) scope gpos) it (genEnv scope (cloFrom X.env.cells scope.names []) s4.heap.objs.size code builtinsNs X.env)) N s4 H2 (genEnv scope (cloFrom X.env.cells scope.names []) s4.heap.objs.size code builtinsNs X.env) fp [(a, oa)]) Ss G)
          (PY (gcx X (gAr X (.GeneratorExp elt (⟨tg, iter, ifs, 0⟩ :: rest) scope gpos) it (genEnv scope (cloFrom X.env.cells scope.names []) s4.heap.objs.size code builtinsNs X.env)) N s4 H2 (genEnv scope (cloFrom X.env.cells scope.names []) s4.heap.objs.size code builtinsNs X.env) fp [(a, oa)]) Ss G ys) ys.length s''
          (.compStart (.GeneratorExp elt (⟨tg, iter, ifs, 0⟩ :: rest) scope gpos) 0 (.ref it) .none (genEnv scope (cloFrom X.env.cells scope.names []) s4.heap.objs.size code builtinsNs X.env)) ((model X.prog X.w).den (.compStart (.GeneratorExp elt (⟨tg, iter, ifs, 0⟩ :: rest) scope gpos) 0 (.ref it) .none (genEnv scope (cloFrom X.env.cells scope.names []) s4.heap.objs.size code builtinsNs X.env))) [] s'') :
    Ready X pins σ ys G a { s4 with gens := s4.gens.push (.fresh (.compStart (.GeneratorExp elt (⟨tg, iter, ifs, 0⟩ :: rest) scope gpos) 0 (.ref it) .none (genEnv scope (cloFrom X.env.cells scope.names []) s4.heap.objs.size code builtinsNs X.env))), toks := tk, heap := h5 } := by
  intro Ss hSs
  have hSs' : ∀ b ∈ Ss, a + 1 ≤ b := fun b hb => by rw [← h5sz]; exact hSs b hb
  have hnc : ∀ v, oa.data ≠ .cell v := fun v z => by
    obtain ⟨_, ⟨nm, qn, e⟩, _⟩ := ho
    rw [e] at z
    cases z
  generalize hce : genEnv scope (cloFrom X.env.cells scope.names []) s4.heap.objs.size code builtinsNs X.env = cenv at hloop ⊢
  have I5 : Inv (gcx X (gAr X (.GeneratorExp elt (⟨tg, iter, ifs, 0⟩ :: rest) scope gpos) it cenv) N s4 H2 cenv fp [(a, oa)]) [] (startG N (js.map (slotAt σ))) H2 { s4 with gens := s4.gens.push (.fresh (.compStart (.GeneratorExp elt (⟨tg, iter, ifs, 0⟩ :: rest) scope gpos) 0 (.ref it) .none cenv)), toks := tk, heap := h5 } := by
    rw [← hce]
    exact inv_startG I4 S cp hr.hd (gar_frames I4.ok.frames) hfp rfl (I4.bare.push rfl) kp hns ha hoa hnc
  have hloc : cenv.locals = s4.heap.objs.size := by rw [← hce]; rfl
  have hcel : cenv.cells = cloFrom X.env.cells scope.names [] := by rw [← hce]; rfl
  have F : Far (gcx X (gAr X (.GeneratorExp elt (⟨tg, iter, ifs, 0⟩ :: rest) scope gpos) it cenv) N s4 H2 cenv fp [(a, oa)]) Ss := by
    refine ⟨fun b hb => ?_, fun b hb z => ?_, fun b hb z => ?_, fun b hb x c e z => ?_, fun b hb p hp z => ?_⟩
    · exact nat_le ha (hSs' b hb)
    · have z : b = cenv.locals := z
      rw [hloc] at z
      exact nat_ne ha (hSs' b hb) z
    · have h1 := hSs' b hb
      have z : b ∈ frs X.stack := z
      obtain ⟨_, o, ho', _⟩ := I4.stack.mem z
      exact nat_lt ha h1 (Heap.lt_size ho') rfl
    · have h1 := hSs' b hb
      have e : cenv.cells.lookup x = some c := e
      rw [hcel] at e
      obtain ⟨v, q⟩ := I4.cell x c (cp.sub x c e)
      exact nat_lt ha h1 q.lt z
    · have h1 := hSs' b hb
      have hp : p = (a, oa) := by simpa [gcx] using hp
      rw [hp] at z
      exact nat_self h1 z
  have fpS : ∀ b ∈ fp, b ∉ Ss := fun b hb z => nat_lt ha (hSs' b z) (hfp b hb).2 rfl
  have noneS : ∀ b ∈ Ss, H2 b = none := fun b hb => I4.hok.fresh (nat_le ha (hSs' b hb))
  refine ⟨GSt _ X.A.in1.in1 Ss G ys s4.gens.size, GLive _ Ss G, gen_gw (X := gcx X (gAr X (.GeneratorExp elt (⟨tg, iter, ifs, 0⟩ :: rest) scope gpos) it cenv) N s4 H2 cenv fp [(a, oa)]) (B := X.A.in1) (hr.hd) (by have := hr.dp; show X.A.depth < _; omega) F (List.mem_singleton.mpr rfl) ho, ⟨Nat.le_refl _, ⟨_, _, I5, noneS, hG⟩, _, Array.getElem?_push_size .., fun s'' z => ⟨rfl, ?_⟩⟩, fun s' ⟨σ', H3, I', _, hG'⟩ => ⟨H3, hG', ?_⟩, fun Q E hq => wpAny_pyIter_gen (g := s4.gens.size) ?_ hq⟩
  · refine hloop Ss F fpS s'' (woken F I5 noneS z) z.there ?_
    exact T.keep _ _ _ st fun b hb o e => z.keep b o (fpS b hb) (kp b o e)
  · refine I4.call' I'.os (ch := fp) I'.base I'.hok I'.bare fun b hb => ?_
    obtain ⟨⟨q0, q1, q2, q3, q4, q5⟩, q6⟩ := hfp b hb
    exact ⟨q3, q1, q4, q5⟩
  · obtain ⟨h1, ⟨nm, qn, h2⟩, h3⟩ := ho
    exact ⟨oa, nm, qn, hoa, h1, h2, h3⟩
/-- the contexts in which a generator of X may run -/
def GFam (X : Cx) (N : List Str) (scope : Scope) (k : Nat) (p : Cx → Prop) : Prop :=
  ∀ (A : Around) (s : Shared) (H : Hp) (C : Addr) (code : Value) (fp : List Addr) (pn : List (Addr × Obj)), Room k A → p (gcx X A N s H (genEnv scope (cloFrom X.env.cells scope.names []) C code builtinsNs X.env) fp pn)
/-- what the reading of a generator of one clause asks; Kont: what its consumer makes of ys -/
def rGen1 (P : Addr) (N : List Str) (js : List Nat) (wi : TI) (g : TG) (tt : TT) (te : TE) (Kont : List V → (Hp → Prop) → Prop) : L2.St → Hp → Prop := fun σ H =>
  wi σ H fun J H1 => GxR.TabG H1 P ∧ ∀ H2, GxR.Tabbed P H1 H2 → ∃ (ys : List V) (G : Hp → Prop) (W : Nat → Nat → List V → L2.St → Hp → Prop), G H2 ∧ (∃ m, W 0 m ys (startG N (js.map (slotAt σ))) H2) ∧ GTurn J g tt te G W ∧ Kont ys G
def rGen2 (P : Addr) (N : List Str) (js : List Nat) (wi : TI) (g : TG) (tt : TT) (wi1 : TI) (g1 : TG) (tt1 : TT) (te : TE) (Kont : List V → (Hp → Prop) → Prop) : L2.St → Hp → Prop := fun σ H =>
  wi σ H fun J H1 => GxR.TabG H1 P ∧ ∀ H2, GxR.Tabbed P H1 H2 → ∃ (ys : List V) (G : Hp → Prop) (W : Nat → Nat → List V → L2.St → Hp → Prop), G H2 ∧ (∃ m, W 0 m ys (startG N (js.map (slotAt σ))) H2) ∧ GTurn2 J g tt wi1 g1 tt1 te G W ∧ Kont ys G
/-- what is asked of the text of a generator expression -/
structure GTxt (X : Cx) (c P : Addr) (scope : Scope) (N fr : List Str) (js : List Nat) : Prop where
  tab : GxR.TabB X.base X.mg c P
  code : X.env.code = .ref c
  sc : GScope N fr scope
  free : ∀ y ∈ scope.names, y.2 = .free → X.env.scope.names.lookup y.1 = some .cell ∨ X.env.scope.names.lookup y.1 = some .free
  at_ : js.map (fun j => X.N[j]?) = fr.map some
theorem GTxt.caps {c P : Addr} {scope : Scope} {N fr : List Str} {js : List Nat} (t : GTxt X c P scope N fr js) (ok : X.Ok) : Caps X (cloFrom X.env.cells scope.names []) fr js :=
  Caps.made ok t.free (fun y hy => PySem.mem_of_lookup (t.sc.frk y hy)) t.at_
theorem gen1 {c P : Addr} {elt tg iter : Expr} {ifs : List Expr} {scope : Scope} {gpos : Pos} {N fr : List Str} {js : List Nat} {k : Nat} {wi : TI} {g : TG} {tt : TT} {te : TE} {Kont : List V → (Hp → Prop) → Prop} {Q' : Value → Shared → Prop}
    (hr : Room (k + 1) X.A) (t : GTxt X c P scope N fr js) (hi : PI X tg iter wi) (hs : ∀ v, genFold iter X.env v = pure v) (hf : GFam X N scope k fun X' => PG X' tg g ∧ PTs X' ifs tt ∧ PE X' elt te) (I : Inv X pins σ H s) (h : rGen1 P N js wi g tt te Kont σ H)
    (hQ : ∀ ys G a s5, Kont ys G → Ready X pins σ ys G a s5 → Q' (.ref a) s5) :
    wpAny (model X.prog X.w) X.A (eval (.GeneratorExp elt [⟨tg, iter, ifs, 0⟩] scope gpos) X.env) Q' X.xe s := by
  refine gen_make hr t.tab t.code t.sc t.free hi hs I h fun J H2 s4 it fp tn code h5 tk a oa hR I4 T st hfp ha h5sz kp hns hoa ho => ?_
  obtain ⟨ys, G, W, hG, ⟨m, w0⟩, hW, hK⟩ := hR
  refine hQ ys G a _ hK (ready_of hr t.sc (t.caps I4.ok) I4 T st hfp ha h5sz kp hns hoa ho hG fun Ss F fpS s'' Iw held stw => ?_)
  obtain ⟨hg, ht, he⟩ := hf _ s4 H2 s4.heap.objs.size code fp [(a, oa)] (gar_room (elt := elt) (gens := [⟨tg, iter, ifs, 0⟩]) (scope := scope) (pos := gpos) (it := it) (cenv := genEnv scope (cloFrom X.env.cells scope.names []) s4.heap.objs.size code builtinsNs X.env) hr)
  refine gen_start (fun A Q E hq => T.self A 0 s'' Q E stw hq) ?_
  refine gen_loop rfl rfl rfl t.sc.co F T (fun H hn b hb => ?_) fpS hg ht he hW m 0 ys _ H2 s'' s'' w0 (Rest.all ys) Iw held stw (fun b hb => (hfp b hb).1.1)
  refine ⟨hn b hb, ?_, fun z => ?_, .inl hb, fun x c e z => ?_, fun p hp z => ?_⟩
  · exact Nat.ne_of_lt (hfp b hb).2
  · have z : b ∈ frs X.stack := z
    rcases List.mem_cons.mp (I4.stkSub b z) with q | q
    · exact (hfp b hb).1.2.1 q
    · exact (hfp b hb).1.2.2.1 q
  · exact (hfp b hb).1.2.2.2.2.1 x c ((t.caps I4.ok).sub x c e) z
  · have hp : p = (a, oa) := by simpa [gcx] using hp
    rw [hp] at z
    exact nat_lt2 ha (hfp b hb).2 z
theorem gen2 {c P : Addr} {elt tg iter tg1 iter1 : Expr} {ifs ifs1 : List Expr} {scope : Scope} {gpos : Pos} {N fr : List Str} {js : List Nat} {k : Nat} {wi wi1 : TI} {g g1 : TG} {tt tt1 : TT} {te : TE} {Kont : List V → (Hp → Prop) → Prop} {Q' : Value → Shared → Prop}
    (hr : Room (k + 1) X.A) (t : GTxt X c P scope N fr js) (hi : PI X tg iter wi) (hs : ∀ v, genFold iter X.env v = pure v) (hf : GFam X N scope k fun X' => PG X' tg g ∧ PTs X' ifs tt ∧ PI X' tg1 iter1 wi1 ∧ (∀ x, foldedSetIterable iter1 X'.env x = pure x) ∧ PG X' tg1 g1 ∧ PTs X' ifs1 tt1 ∧ PE X' elt te) (I : Inv X pins σ H s)
    (h : rGen2 P N js wi g tt wi1 g1 tt1 te Kont σ H) (hQ : ∀ ys G a s5, Kont ys G → Ready X pins σ ys G a s5 → Q' (.ref a) s5) :
    wpAny (model X.prog X.w) X.A (eval (.GeneratorExp elt [⟨tg, iter, ifs, 0⟩, ⟨tg1, iter1, ifs1, 0⟩] scope gpos) X.env) Q' X.xe s := by
  refine gen_make hr t.tab t.code t.sc t.free hi hs I h fun J H2 s4 it fp tn code h5 tk a oa hR I4 T st hfp ha h5sz kp hns hoa ho => ?_
  obtain ⟨ys, G, W, hG, ⟨m, w0⟩, hW, hK⟩ := hR
  refine hQ ys G a _ hK (ready_of hr t.sc (t.caps I4.ok) I4 T st hfp ha h5sz kp hns hoa ho hG fun Ss F fpS s'' Iw held stw => ?_)
  obtain ⟨hg, ht, hi1, hs1, hg1, ht1, he⟩ := hf _ s4 H2 s4.heap.objs.size code fp [(a, oa)] (gar_room (elt := elt) (gens := [⟨tg, iter, ifs, 0⟩, ⟨tg1, iter1, ifs1, 0⟩]) (scope := scope) (pos := gpos) (it := it) (cenv := genEnv scope (cloFrom X.env.cells scope.names []) s4.heap.objs.size code builtinsNs X.env) hr)
  refine out_start (fun A Q E hq => T.self A 0 s'' Q E stw hq) ?_
  refine out_loop rfl rfl rfl t.sc.co F T (fun H hn b hb => ?_) fpS hg ht hi1 hs1 hg1 ht1 he hW m 0 ys _ H2 s'' s'' w0 (Rest.all ys) Iw held stw (fun b hb => (hfp b hb).1.1)
  refine ⟨hn b hb, ?_, fun z => ?_, .inl hb, fun x c e z => ?_, fun p hp z => ?_⟩
  · exact Nat.ne_of_lt (hfp b hb).2
  · have z : b ∈ frs X.stack := z
    rcases List.mem_cons.mp (I4.stkSub b z) with q | q
    · exact (hfp b hb).1.2.1 q
    · exact (hfp b hb).1.2.2.1 q
  · exact (hfp b hb).1.2.2.2.2.1 x c ((t.caps I4.ok).sub x c e) z
  · have hp : p = (a, oa) := by simpa [gcx] using hp
    rw [hp] at z
    exact nat_lt2 ha (hfp b hb).2 z
/-! ### the rules: how what the generator gives is taken -/
def kAny (Q : VK) : List V → (Hp → Prop) → Prop := fun ys G => ∃ bs : List Bool, ys = bs.map V.bl ∧ ∀ H3, G H3 → Q (.bl (bs.any id)) H3
def kAll (Q : VK) : List V → (Hp → Prop) → Prop := fun ys G => ∃ bs : List Bool, ys = bs.map V.bl ∧ ∀ H3, G H3 → Q (.bl (bs.all id)) H3
def kSum (Q : VK) : List V → (Hp → Prop) → Prop := fun ys G => ∃ ks : List Int, ys = ks.map V.int ∧ (∀ k ∈ ks, InLong k) ∧ (∀ j, InLong (ks.take j).sum) ∧ ∀ H3, G H3 → Q (.int ks.sum) H3
def kMin (Q : VK) : List V → (Hp → Prop) → Prop := fun ys G => ∃ ks : List Int, ys = ks.map V.int ∧ ks ≠ [] ∧ ∀ H3 m, IsMin ks m → G H3 → Q (.int m) H3
/-- which of the four -/
inductive Taker | any | all | sum | min
def Taker.id : Taker → String | .any => "any" | .all => "all" | .sum => "sum" | .min => "min"
def Taker.name : Taker → Str | .any => "any" | .all => "all" | .sum => "sum" | .min => "min"
def Taker.kont : Taker → VK → List V → (Hp → Prop) → Prop | .any => kAny | .all => kAll | .sum => kSum | .min => kMin
theorem take_gen (tk : Taker) {Q : VK} {ys : List V} {G : Hp → Prop} {a : Addr} {s5 : Shared} (hK : tk.kont Q ys G) (hR : Ready X pins σ ys G a s5) :
    wpAny (model X.prog X.w) X.A (call (.builtin tk.id) [.ref a]) (EP X pins σ Q) X.xe s5 := by
  cases tk with
  | any =>
    obtain ⟨bs, rfl, hq⟩ := hK
    obtain ⟨St, Out, W, hst, hout, self⟩ := hR [] fun b hb => absurd hb (by simp)
    rw [List.length_map] at hst
    refine call_any self W hst fun s' ho => ?_
    obtain ⟨H3, hG, I3⟩ := hout s' ho
    exact ⟨.bl _, H3, I3, rfl, hq H3 hG⟩
  | all =>
    obtain ⟨bs, rfl, hq⟩ := hK
    obtain ⟨St, Out, W, hst, hout, self⟩ := hR [] fun b hb => absurd hb (by simp)
    rw [List.length_map] at hst
    refine call_all self W hst fun s' ho => ?_
    obtain ⟨H3, hG, I3⟩ := hout s' ho
    exact ⟨.bl _, H3, I3, rfl, hq H3 hG⟩
  | sum =>
    obtain ⟨ks, rfl, h1, h2, hq⟩ := hK
    obtain ⟨St, Out, W, hst, hout, self⟩ := hR [s5.heap.objs.size] fun b hb => Nat.le_of_eq (List.mem_singleton.mp hb).symm
    rw [List.length_map] at hst
    refine call_sum self W h1 h2 hst fun s' t ho => ?_
    obtain ⟨H3, hG, I3⟩ := hout s' ho
    exact ⟨.int _, H3, I3, ⟨t, rfl⟩, hq H3 hG⟩
  | min =>
    obtain ⟨ks, rfl, h1, hq⟩ := hK
    obtain ⟨St, Out, W, hst, hout, self⟩ := hR [s5.heap.objs.size] fun b hb => Nat.le_of_eq (List.mem_singleton.mp hb).symm
    rw [List.length_map] at hst
    refine call_min self W h1 hst fun s' m t ho hm => ?_
    obtain ⟨H3, hG, I3⟩ := hout s' ho
    exact ⟨.int _, H3, I3, ⟨t, rfl⟩, hq H3 m hm hG⟩
theorem boot_taker (tk : Taker) : bootBuiltins tk.name = some (.builtin tk.id) := by
  cases tk <;> (show bootBuiltins _ = _; decide +kernel)
theorem pe_gen1 (tk : Taker) {c P : Addr} {elt tg iter : Expr} {ifs : List Expr} {scope : Scope} {p pos gpos : Pos} {N fr : List Str} {js : List Nat} {k : Nat} {wi : TI} {g : TG} {tt : TT} {te : TE}
    (hr : Room (k + 1) X.A) (hgl : Gl X tk.name) (hm : X.mg tk.name = none) (t : GTxt X c P scope N fr js) (hi : PI X tg iter wi) (hf : GFam X N scope k fun X' => PG X' tg g ∧ PTs X' ifs tt ∧ PE X' elt te)
    (hs : ∀ v, genFold iter X.env v = pure v := by intro _; rfl)
    (he : starEach [.GeneratorExp elt [⟨tg, iter, ifs, 0⟩] scope gpos] X.env = (false, eval (.GeneratorExp elt [⟨tg, iter, ifs, 0⟩] scope gpos) X.env) :: starEach [] X.env := by rfl) :
    PE X (.Call (.Name tk.name p) [.GeneratorExp elt [⟨tg, iter, ifs, 0⟩] scope gpos] [] pos) (fun σ H Q => rGen1 P N js wi g tt te (tk.kont Q) σ H) := by
  refine ⟨fun pins s σ H Q I h => ?_⟩
  refine wpAny_Call_Name_kw (ld_blt I hgl hm (boot_taker tk) ?_ (by cases tk <;> decide) (by cases tk <;> decide))
  refine PyProof.Rows.callWith_builtin1 ?_ he (by rfl)
  rw [he]
  show wpAny _ _ (spliced ((false, eval (.GeneratorExp elt [⟨tg, iter, ifs, 0⟩] scope gpos) X.env) :: backTo pos (starEach [] X.env))) _ _ s
  refine Calls.spliced_cons (gen1 hr t hi hs hf I h fun ys G a s5 hK hR => ?_)
  exact Calls.spliced_nil (take_gen tk hK hR)
theorem pe_gen2 (tk : Taker) {c P : Addr} {elt tg iter tg1 iter1 : Expr} {ifs ifs1 : List Expr} {scope : Scope} {p pos gpos : Pos} {N fr : List Str} {js : List Nat} {k : Nat} {wi wi1 : TI} {g g1 : TG} {tt tt1 : TT} {te : TE}
    (hr : Room (k + 1) X.A) (hgl : Gl X tk.name) (hm : X.mg tk.name = none) (t : GTxt X c P scope N fr js) (hi : PI X tg iter wi)
    (hf : GFam X N scope k fun X' => PG X' tg g ∧ PTs X' ifs tt ∧ PI X' tg1 iter1 wi1 ∧ (∀ x, foldedSetIterable iter1 X'.env x = pure x) ∧ PG X' tg1 g1 ∧ PTs X' ifs1 tt1 ∧ PE X' elt te)
    (hs : ∀ v, genFold iter X.env v = pure v := by intro _; rfl)
    (he : starEach [.GeneratorExp elt [⟨tg, iter, ifs, 0⟩, ⟨tg1, iter1, ifs1, 0⟩] scope gpos] X.env = (false, eval (.GeneratorExp elt [⟨tg, iter, ifs, 0⟩, ⟨tg1, iter1, ifs1, 0⟩] scope gpos) X.env) :: starEach [] X.env := by rfl) :
    PE X (.Call (.Name tk.name p) [.GeneratorExp elt [⟨tg, iter, ifs, 0⟩, ⟨tg1, iter1, ifs1, 0⟩] scope gpos] [] pos) (fun σ H Q => rGen2 P N js wi g tt wi1 g1 tt1 te (tk.kont Q) σ H) := by
  refine ⟨fun pins s σ H Q I h => ?_⟩
  refine wpAny_Call_Name_kw (ld_blt I hgl hm (boot_taker tk) ?_ (by cases tk <;> decide) (by cases tk <;> decide))
  refine PyProof.Rows.callWith_builtin1 ?_ he (by rfl)
  rw [he]
  show wpAny _ _ (spliced ((false, eval (.GeneratorExp elt [⟨tg, iter, ifs, 0⟩, ⟨tg1, iter1, ifs1, 0⟩] scope gpos) X.env) :: backTo pos (starEach [] X.env))) _ _ s
  refine Calls.spliced_cons (gen2 hr t hi hs hf I h fun ys G a s5 hK hR => ?_)
  exact Calls.spliced_nil (take_gen tk hK hR)
end
end K22
end
section
set_option Elab.async false
set_option linter.all false
set_option maxRecDepth 100000
set_option maxHeartbeats 4000000
/-! K22Ev: expressions that evaluate to plain data while the heap only grows. -/
namespace K22
open PySem PySem.Spec PyProof.Rows L2 NdefX
/-- what stays fixed: the written part, the addresses that data must not lean on, the tables of code objects -/
structure Amb where
  K : PySem.W.Frag
  X : List Addr
  TG : List Addr
  TL : List (Addr × Str)
structure TK (B : Amb) (H : Hp) : Prop where
  tg : ∀ P ∈ B.TG, GxR.TabG H P
  tl : LamX.Tabs B.TL H
  xs : ∀ a ∈ B.X, H a ≠ none
  dj : ∀ P ∈ B.TG, ∀ q ∈ B.TL, q.1 ≠ P
/-- the heap has grown: all but the tables stays -/
structure Gr (B : Amb) (H H' : Hp) : Prop where
  keep : ∀ a o, H a = some o → (∀ ps, o ≠ .tbl ps) → H' a = some o
  tk : TK B H'
  dom : ∀ a, H' a = none → H a = none
/-- .. and what stands at X may have changed -/
structure Gx (B : Amb) (H H' : Hp) : Prop where
  keep : ∀ a o, H a = some o → (∀ ps, o ≠ .tbl ps) → a ∉ B.X → H' a = some o
  tk : TK B H'
  dom : ∀ a, H' a = none → H a = none
section
variable {B : Amb} {H H1 H2 H' : Hp}
theorem Gr.x (a : Gr B H H') : Gx B H H' := ⟨fun c o h n _ => a.keep c o h n, a.tk, a.dom⟩
theorem Gr.refl (t : TK B H) : Gr B H H := ⟨fun _ _ h _ => h, t, fun _ h => h⟩
theorem Gr.trans (a : Gr B H H1) (b : Gr B H1 H2) : Gr B H H2 := ⟨fun c o h n => b.keep c o (a.keep c o h n) n, b.tk, fun c h => a.dom c (b.dom c h)⟩
theorem Gr.self (a : Gr B H H1) : Gr B H1 H1 := .refl a.tk
theorem Gx.refl (t : TK B H) : Gx B H H := ⟨fun _ _ h _ _ => h, t, fun _ h => h⟩
theorem Gx.trans (a : Gx B H H1) (b : Gx B H1 H2) : Gx B H H2 := ⟨fun c o h n hx => b.keep c o (a.keep c o h n hx) n hx, b.tk, fun c h => a.dom c (b.dom c h)⟩
theorem Gx.gr (a : Gx B H H1) (b : Gr B H1 H2) : Gx B H H2 := a.trans b.x
theorem TK.new {p : Addr} {o : HO} (t : TK B H) (hp : H p = none) : TK B (upd H p o) := by
  have e : ∀ b u, H b = some u → upd H p o b = some u := fun b u q => by rw [upd_ne (ne_of_none q hp)]; exact q
  refine ⟨fun P hP => ?_, t.tl.ext e, fun a ha z => ?_, t.dj⟩
  · obtain ⟨ps, h, r⟩ := t.tg P hP
    exact ⟨ps, e _ _ h, r⟩
  · cases q : H a with
    | none => exact t.xs a ha q
    | some u => rw [e a u q] at z; cases z
theorem Gr.new {p : Addr} {o : HO} (t : TK B H) (hp : H p = none) : Gr B H (upd H p o) :=
  ⟨fun b u q _ => by rw [upd_ne (ne_of_none q hp)]; exact q, t.new hp, fun c z => by
    by_cases h : c = p
    · rw [h]; exact hp
    · rw [upd_ne h] at z; exact z⟩
theorem TK.notX (t : TK B H) {p : Addr} (hp : H p = none) : p ∉ B.X := fun z => t.xs p z hp
/-- an object at X, no table, is written -/
theorem TK.upd {p : Addr} {o u : HO} (t : TK B H) (hp : H p = some u) (hu : ∀ ps, u ≠ .tbl ps) (hc : ∀ q, u ≠ LamX.CodeO p q) : TK B (upd H p o) := by
  refine ⟨fun P hP => ?_, fun q hq => ?_, fun a ha z => ?_, t.dj⟩
  · obtain ⟨ps, h, r⟩ := t.tg P hP
    exact ⟨ps, by rw [upd_ne (fun z => by rw [z, hp] at h; cases h; exact hu _ rfl)]; exact h, r⟩
  · obtain ⟨ps, h, r, s⟩ := t.tl q hq
    refine ⟨ps, by rw [upd_ne (fun z => by rw [z, hp] at h; cases h; exact hu _ rfl)]; exact h, r, fun pos cv hcv => ?_⟩
    obtain ⟨c, e, hco⟩ := s pos cv hcv
    refine ⟨c, e, ?_⟩
    rw [upd_ne (fun z => by rw [z, hp] at hco; exact hc _ (by rw [z] at *; exact Option.some.inj hco))]
    exact hco
  · by_cases h : a = p
    · rw [h, upd_same] at z; cases z
    · rw [upd_ne h] at z; exact t.xs a ha z
theorem Gx.upd {p : Addr} {o u : HO} (t : TK B H) (hp : H p = some u) (hx : p ∈ B.X) (hu : ∀ ps, u ≠ .tbl ps) (hc : ∀ q, u ≠ LamX.CodeO p q) : Gx B H (L2.upd H p o) :=
  ⟨fun a w h _ ha => by rw [upd_ne (fun z => ha (by rw [z]; exact hx))]; exact h, t.upd hp hu hc, fun c z => by
    by_cases h : c = p
    · rw [h, upd_same] at z; cases z
    · rw [upd_ne h] at z; exact z⟩
end
/-- a value v in the heap H is the data d, none of it at an address of X -/
inductive Is (X : List Addr) (H : Hp) : V → PyData → Prop
  | non : Is X H .non .none
  | bl (b : Bool) : Is X H (.bl b) (.bool b)
  | int (i : Int) : Is X H (.int i) (.int i)
  | str (x : Str) : Is X H (.str x) (.str x)
  | lst {a : Addr} {xs : List V} {ds : List PyData} : H a = some (.lst xs) → a ∉ X → xs.length = ds.length → (∀ (i : Nat) v d, xs[i]? = some v → ds[i]? = some d → Is X H v d) → Is X H (.ref a) (.list ds)
  | tup {a : Addr} {xs : List V} {ds : List PyData} : H a = some (.tup xs) → a ∉ X → xs.length = ds.length → (∀ (i : Nat) v d, xs[i]? = some v → ds[i]? = some d → Is X H v d) → Is X H (.ref a) (.tuple ds)
theorem Is.monoX {B : Amb} {H H' : Hp} {v : V} {d : PyData} (g : Gx B H H') (h : Is B.X H v d) : Is B.X H' v d := by
  induction h with
  | non => exact .non
  | bl b => exact .bl b
  | int i => exact .int i
  | str x => exact .str x
  | lst e hx hl _ ih => exact .lst (g.keep _ _ e (fun ps z => by cases z) hx) hx hl ih
  | tup e hx hl _ ih => exact .tup (g.keep _ _ e (fun ps z => by cases z) hx) hx hl ih
theorem Is.mono {B : Amb} {H H' : Hp} {v : V} {d : PyData} (g : Gr B H H') (h : Is B.X H v d) : Is B.X H' v d := h.monoX g.x
/-- data avoid what was not there -/
theorem Is.avoid {X Y : List Addr} {H : Hp} {v : V} {d : PyData} (h : Is X H v d) (hY : ∀ a ∈ Y, a ∈ X ∨ H a = none) : Is Y H v d := by
  induction h with
  | non => exact .non
  | bl b => exact .bl b
  | int i => exact .int i
  | str x => exact .str x
  | lst e hx hl _ ih => exact .lst e (fun z => (hY _ z).elim hx fun q => by rw [q] at e; cases e) hl ih
  | tup e hx hl _ ih => exact .tup e (fun z => (hY _ z).elim hx fun q => by rw [q] at e; cases e) hl ih
/-- lists of values and of data -/
def Iss (X : List Addr) (H : Hp) (vs : List V) (ds : List PyData) : Prop := vs.length = ds.length ∧ ∀ (i : Nat) v d, vs[i]? = some v → ds[i]? = some d → Is X H v d
theorem Iss.nil {X : List Addr} {H : Hp} : Iss X H [] [] := ⟨rfl, fun i v d h => by simp at h⟩
theorem Iss.cons {X : List Addr} {H : Hp} {v : V} {d : PyData} {vs : List V} {ds : List PyData} (h : Is X H v d) (r : Iss X H vs ds) : Iss X H (v :: vs) (d :: ds) := by
  refine ⟨by rw [List.length_cons, List.length_cons, r.1], fun i w e h1 h2 => ?_⟩
  cases i with
  | zero =>
    cases h1
    cases h2
    exact h
  | succ i => exact r.2 i w e h1 h2
theorem Iss.monoX {B : Amb} {H H' : Hp} {vs : List V} {ds : List PyData} (g : Gx B H H') (h : Iss B.X H vs ds) : Iss B.X H' vs ds := ⟨h.1, fun i v d h1 h2 => (h.2 i v d h1 h2).monoX g⟩
theorem Iss.mono {B : Amb} {H H' : Hp} {vs : List V} {ds : List PyData} (g : Gr B H H') (h : Iss B.X H vs ds) : Iss B.X H' vs ds := ⟨h.1, fun i v d h1 h2 => (h.2 i v d h1 h2).mono g⟩
theorem Iss.snoc {X : List Addr} {H : Hp} {v : V} {d : PyData} {vs : List V} {ds : List PyData} (r : Iss X H vs ds) (h : Is X H v d) : Iss X H (vs ++ [v]) (ds ++ [d]) := by
  refine ⟨by rw [List.length_append, List.length_append, r.1]; rfl, fun i w e h1 h2 => ?_⟩
  by_cases c : i < vs.length
  · rw [List.getElem?_append_left c] at h1
    rw [List.getElem?_append_left (by rw [← r.1]; exact c)] at h2
    exact r.2 i w e h1 h2
  · rw [List.getElem?_append_right (by omega)] at h1
    rw [List.getElem?_append_right (by rw [← r.1]; omega), ← r.1] at h2
    cases q : i - vs.length with
    | zero =>
      rw [q] at h1 h2
      cases h1
      cases h2
      exact h
    | succ j =>
      rw [q] at h1
      simp at h1
theorem Is.dp {K : PySem.W.Frag} {X : List Addr} {H : Hp} : ∀ {v : V} {d : PyData}, Is X H v d → Dp K H v d := by
  have all : ∀ (vs : List V) (ds : List PyData), vs.length = ds.length → (∀ (i : Nat) v d, vs[i]? = some v → ds[i]? = some d → Dp K H v d) → DpAll K H vs ds := by
    intro vs
    induction vs with
    | nil =>
      intro ds hl _
      cases ds with
      | nil => exact .nil
      | cons d ds => simp at hl
    | cons v vs ih =>
      intro ds hl h
      cases ds with
      | nil => simp at hl
      | cons d ds =>
        refine .cons (h 0 v d rfl rfl) (ih ds (by simpa using hl) fun i w e h1 h2 => h (i + 1) w e h1 h2)
  intro v d h
  induction h with
  | non => exact .non
  | bl b => exact .bl b
  | int i => exact .int i
  | str x => exact .str x
  | lst e hx hl _ ih => exact .lst (.inl (.inl e)) (all _ _ hl ih)
  | tup e hx hl _ ih => exact .tup (.inl (.inl e)) (all _ _ hl ih)
/-- the lists' own items -/
theorem Is.list_at {X : List Addr} {H : Hp} {v : V} {ds : List PyData} (h : Is X H v (.list ds)) : ∃ a xs, v = .ref a ∧ H a = some (.lst xs) ∧ a ∉ X ∧ Iss X H xs ds := by
  cases h with
  | lst e hx hl hi => exact ⟨_, _, rfl, e, hx, hl, hi⟩
theorem Is.tup_at {X : List Addr} {H : Hp} {v : V} {ds : List PyData} (h : Is X H v (.tuple ds)) : ∃ a xs, v = .ref a ∧ H a = some (.tup xs) ∧ a ∉ X ∧ Iss X H xs ds := by
  cases h with
  | tup e hx hl hi => exact ⟨_, _, rfl, e, hx, hl, hi⟩
theorem Is.int_eq {X : List Addr} {H : Hp} {v : V} {i : Int} (h : Is X H v (.int i)) : v = .int i := by cases h; rfl
theorem Is.bl_eq {X : List Addr} {H : Hp} {v : V} {b : Bool} (h : Is X H v (.bool b)) : v = .bl b := by cases h; rfl
theorem Is.str_eq {X : List Addr} {H : Hp} {v : V} {x : Str} (h : Is X H v (.str x)) : v = .str x := by cases h; rfl
theorem Is.non_eq {X : List Addr} {H : Hp} {v : V} (h : Is X H v .none) : v = .non := by cases h; rfl
/-! ### readings that say what runs -/
def tS (C : Cx) (e : Expr) : TE := fun σ H Q => ∀ (pins : List (Addr × Obj)) (s : Shared), Inv C pins σ H s → wpAny (model C.prog C.w) C.A (eval e C.env) (EP C pins σ Q) C.xe s
def tST (C : Cx) (e : Expr) : TT := fun σ H Q => ∀ (pins : List (Addr × Obj)) (s : Shared), Inv C pins σ H s → wpAny (model C.prog C.w) C.A (isTrue e C.env (eval e C.env)) (TP C pins σ Q) C.xe s
theorem pe_S {C : Cx} {e : Expr} : PE C e (tS C e) := ⟨fun pins s _ _ _ I h => h pins s I⟩
theorem pt_S {C : Cx} {e : Expr} : PT C e (tST C e) := ⟨fun pins s _ _ _ I h => h pins s I⟩
theorem of_pe {C : Cx} {e : Expr} {t : TE} {σ : L2.St} {H : Hp} {Q : VK} (h : PE C e t) (q : t σ H Q) : tS C e σ H Q := fun pins s I => h.run pins s σ H Q I q
theorem of_pt {C : Cx} {e : Expr} {t : TT} {σ : L2.St} {H : Hp} {Q : Bool → Hp → Prop} (h : PT C e t) (q : t σ H Q) : tST C e σ H Q := fun pins s I => h.run pins s σ H Q I q
/-- e gives a value of which P holds, the heap grows -/
def EVP (B : Amb) (C : Cx) (e : Expr) (σ : L2.St) (H : Hp) (P : V → Hp → Prop) : Prop := ∀ H1, Gr B H H1 → ∀ Q : VK, (∀ v H2, Gr B H1 H2 → P v H2 → Q v H2) → tS C e σ H1 Q
/-- e gives the data d -/
def EV (B : Amb) (C : Cx) (e : Expr) (σ : L2.St) (H : Hp) (d : PyData) : Prop := EVP B C e σ H fun v H2 => Is B.X H2 v d
/-- the test e gives b -/
def ET (B : Amb) (C : Cx) (e : Expr) (σ : L2.St) (H : Hp) (b : Bool) : Prop := ∀ H1, Gr B H H1 → ∀ Q : Bool → Hp → Prop, (∀ H2, Gr B H1 H2 → Q b H2) → tST C e σ H1 Q
/-- arguments, items -/
def EA (B : Amb) (C : Cx) (es : List Expr) (σ : L2.St) (H : Hp) (ds : List PyData) : Prop := ∃ t : TA, PA C es t ∧ ∀ H1, Gr B H H1 → ∀ Q : List V → Hp → Prop, (∀ vs H2, Gr B H1 H2 → Iss B.X H2 vs ds → Q vs H2) → t σ H1 Q
section
variable {B : Amb} {C : Cx} {a b c e o i : Expr} {σ : L2.St} {H H' : Hp} {d d' : PyData} {pos : Pos}
theorem EVP.mono {P : V → Hp → Prop} (g : Gr B H H') (h : EVP B C e σ H P) : EVP B C e σ H' P := fun H1 g1 Q q => h H1 (g.trans g1) Q q
theorem EV.mono (g : Gr B H H') (h : EV B C e σ H d) : EV B C e σ H' d := fun H1 g1 Q q => h H1 (g.trans g1) Q q
theorem ET.mono {b : Bool} (g : Gr B H H') (h : ET B C e σ H b) : ET B C e σ H' b := fun H1 g1 Q q => h H1 (g.trans g1) Q q
theorem EV.to (h : EV B C e σ H d) (q : d = d') : EV B C e σ H d' := q ▸ h
theorem ET.to {b b' : Bool} (h : ET B C e σ H b) (q : b = b') : ET B C e σ H b' := q ▸ h
theorem ev_var (k : Nat) {x : Str} {v : V} (hN : C.N[k]? = some x := by rfl) (hv : Vis C.env.scope x := by first | exact Or.inl rfl | exact Or.inr (Or.inl rfl) | exact Or.inr (Or.inr rfl)) (hs : σ[k]? = some (some v) := by rfl)
    (hd : Is B.X H v d := by assumption) (h1 : (x == ("__debug__" : Str)) = false := by decide) (h2 : (x == ("__classdict__" : Str)) = false := by decide) : EV B C (.Name x pos) σ H d := fun H1 g Q q =>
  of_pe (pe_var hN hv h1 h2) ⟨v, hs, q v H1 g.self (hd.mono g)⟩
theorem ev_int {n : Int} {j : Nat} : EV B C (.Constant (.int n) j pos) σ H (.int n) := fun H1 g Q q => of_pe pe_int (q _ H1 g.self (.int n))
theorem ev_bl {k : Bool} {j : Nat} : EV B C (.Constant (.bool k) j pos) σ H (.bool k) := fun H1 g Q q => of_pe pe_bl (q _ H1 g.self (.bl k))
theorem ev_non {j : Nat} : EV B C (.Constant .none j pos) σ H .none := fun H1 g Q q => of_pe pe_non (q _ H1 g.self .non)
theorem ev_str {x : Str} {j : Nat} : EV B C (.Constant (.str x) j pos) σ H (.str x) := fun H1 g Q q => of_pe pe_str (q _ H1 g.self (.str x))
/-- two ints -/
theorem ev_ii {n m : Int} {r : R2} {t : TE → TE → TE} {z : V} (hp : ∀ {ta tb : TE}, PE C a ta → PE C b tb → PE C e (tOp r ta tb)) (ha : EV B C a σ H (.int n)) (hb : EV B C b σ H (.int m)) (hr : ∀ (H : Hp) (Q : VK), Q z H → r (.int n) (.int m) H Q) (hz : ∀ H, Is B.X H z d) : EV B C e σ H d := fun H1 g Q q =>
  of_pe (hp pe_S pe_S) (ha H1 g _ fun v H2 g2 hv => by
    rw [hv.int_eq]
    exact hb H2 (g.trans g2) _ fun u H3 g3 hu => by
      rw [hu.int_eq]
      exact hr H3 Q (q _ H3 (g2.trans g3) (hz H3)))
theorem ev_add {n m : Int} (ha : EV B C a σ H (.int n)) (hb : EV B C b σ H (.int m)) : EV B C (.BinOp a .Add b pos) σ H (.int (n + m)) := ev_ii (t := tAdd) (pe_op op_add) ha hb (fun H Q q => ⟨_, _, rfl, rfl, q⟩) fun H => .int _
theorem ev_sub {n m : Int} (ha : EV B C a σ H (.int n)) (hb : EV B C b σ H (.int m)) : EV B C (.BinOp a .Sub b pos) σ H (.int (n - m)) := ev_ii (t := tAdd) (pe_op op_sub) ha hb (fun H Q q => ⟨_, _, rfl, rfl, q⟩) fun H => .int _
/-- a comparison's answer, by data -/
def CO (B : Amb) (C : Cx) (op : CmpOp) (d d' : PyData) (k : Bool) : Prop := ∃ r : R2, OpR C (compareOp op) r ∧ ∀ (x y : V) (H : Hp), Is B.X H x d → Is B.X H y d' → ∀ Q : VK, Q (.bl k) H → r x y H Q
theorem co_lt {n m : Int} : CO B C .Lt (.int n) (.int m) (decide (n < m)) := ⟨_, op_lt, fun x y H hx hy Q q => ⟨n, m, hx.int_eq, hy.int_eq, q⟩⟩
theorem co_le {n m : Int} : CO B C .LtE (.int n) (.int m) (decide (n ≤ m)) := ⟨_, op_le, fun x y H hx hy Q q => ⟨n, m, hx.int_eq, hy.int_eq, q⟩⟩
theorem co_gt {n m : Int} : CO B C .Gt (.int n) (.int m) (decide (m < n)) := ⟨_, op_gt, fun x y H hx hy Q q => ⟨n, m, hx.int_eq, hy.int_eq, q⟩⟩
theorem co_ge {n m : Int} : CO B C .GtE (.int n) (.int m) (decide (m ≤ n)) := ⟨_, op_ge, fun x y H hx hy Q q => ⟨n, m, hx.int_eq, hy.int_eq, q⟩⟩
theorem co_eqI {n m : Int} : CO B C .Eq (.int n) (.int m) (decide (n = m)) := ⟨_, op_eq, fun x y H hx hy Q q => by
  rw [hx.int_eq, hy.int_eq]
  refine ⟨rfl, ?_⟩
  have e : decide (V.int n = V.int m) = decide (n = m) := by
    by_cases h : n = m
    · rw [h]; simp
    · rw [decide_eq_false h, decide_eq_false fun z => h (by cases z; rfl)]
  rw [e]
  exact q⟩
theorem co_neI {n m : Int} : CO B C .NotEq (.int n) (.int m) (!decide (n = m)) := ⟨_, op_ne, fun x y H hx hy Q q => by
  rw [hx.int_eq, hy.int_eq]
  refine ⟨rfl, ?_⟩
  have e : decide (V.int n = V.int m) = decide (n = m) := by
    by_cases h : n = m
    · rw [h]; simp
    · rw [decide_eq_false h, decide_eq_false fun z => h (by cases z; rfl)]
  rw [e]
  exact q⟩
theorem co_eq (hu : C.A.units + 64 < cLine) (s1 : SeqAt.shaped d = true) (s2 : SeqAt.shaped d' = true) : CO B C .Eq d d' (PyData.eqv d d') := ⟨_, op_eqD hu, fun x y H hx hy Q q => ⟨d, d', hx.dp, hy.dp, s1, s2, q⟩⟩
theorem co_ne (hu : C.A.units + 64 < cLine) (s1 : SeqAt.shaped d = true) (s2 : SeqAt.shaped d' = true) : CO B C .NotEq d d' (!PyData.eqv d d') := ⟨_, op_neD hu, fun x y H hx hy Q q => ⟨d, d', hx.dp, hy.dp, s1, s2, q⟩⟩
theorem co_in {ds : List PyData} (hu : C.A.units + 65 < cLine) (s1 : SeqAt.shaped d = true) (s2 : SeqAt.shaped (.list ds) = true) : CO B C .In d (.list ds) (ds.any fun z => PyData.eqv z d) := ⟨_, op_inD hu, fun x y H hx hy Q q => ⟨d, ds, hx.dp, hy.dp, s1, s2, q⟩⟩
theorem co_notIn {ds : List PyData} (hu : C.A.units + 65 < cLine) (s1 : SeqAt.shaped d = true) (s2 : SeqAt.shaped (.list ds) = true) : CO B C .NotIn d (.list ds) (!ds.any fun z => PyData.eqv z d) := ⟨_, op_notInD hu, fun x y H hx hy Q q => ⟨d, ds, hx.dp, hy.dp, s1, s2, q⟩⟩
theorem co_isN : CO B C .Is d .none (match d with | .none => true | _ => false) := ⟨_, op_isN, fun x y H hx hy Q q => ⟨hy.non_eq, by cases hx <;> exact q⟩⟩
theorem co_notN : CO B C .IsNot d .none (match d with | .none => false | _ => true) := ⟨_, op_notN, fun x y H hx hy Q q => ⟨hy.non_eq, by cases hx <;> exact q⟩⟩
/-- what may be walked: a list or a tuple of data -/
def Sq (d : PyData) (ds : List PyData) : Prop := d = .list ds ∨ d = .tuple ds
theorem Is.sq {K : PySem.W.Frag} {X : List Addr} {v : V} {ds : List PyData} (h : Is X H v d) (q : Sq d ds) : ∃ p xs, v = .ref p ∧ p ∉ X ∧ Iss X H xs ds ∧ ((SqL K H p xs ∧ H p = some (.lst xs)) ∨ (SqT K H p xs ∧ H p = some (.tup xs))) := by
  rcases q with e | e
  · subst e
    obtain ⟨p, xs, rfl, e, hx, hi⟩ := h.list_at
    exact ⟨p, xs, rfl, hx, hi, .inl ⟨.inl (.inl e), e⟩⟩
  · subst e
    obtain ⟨p, xs, rfl, e, hx, hi⟩ := h.tup_at
    exact ⟨p, xs, rfl, hx, hi, .inr ⟨.inl (.inl e), e⟩⟩
theorem ev_len {ds : List PyData} {p' : Pos} (hg : Gl C "len") (hm : C.mg "len" = none) (ha : EV B C a σ H d) (q : Sq d ds) (hs : starEach [a] C.env = (false, eval a C.env) :: starEach [] C.env := by rfl) : EV B C (.Call (.Name "len" p') [a] [] pos) σ H (.int (ds.length : Int)) := fun H1 g Q k =>
  of_pe (pe_callB call_len_seq hg hm boot_len (pa_cons pe_S pa_nil hs) (he := hs)) (ha H1 g _ fun v H2 g2 hv => by
    obtain ⟨p, xs, rfl, _, hi, h⟩ := hv.sq (K := C.K) q
    exact ⟨p, xs, rfl, h.imp (·.1) (·.1), by rw [hi.1]; exact k _ H2 g2 (.int _)⟩)
theorem atI_of {α : Type} {xs : List α} {n : Int} {k : Nat} {x : α} (h : n = (k : Int)) (e : xs[k]? = some x) : atI xs n = some x := by
  subst h
  exact atI_nat e
theorem ev_ix {ds : List PyData} {n : Int} {k : Nat} (ha : EV B C a σ H d) (q : Sq d ds) (hb : EV B C b σ H (.int n)) (hk : n = (k : Int)) (hd : ds[k]? = some d') (hs : PlainIx b := by exact fun _ _ => rfl) : EV B C (.Subscript a b pos) σ H d' := fun H1 g Q kk => by
  rcases id q with e | e
  · exact of_pe (pe_ix ix_list pe_S pe_S hs) (ha H1 g _ fun v H2 g2 hv => hb H2 (g.trans g2) _ fun u H3 g3 hu => by
      rw [hu.int_eq]
      have hv' := hv.mono g3
      rw [e] at hv'
      obtain ⟨p, xs, rfl, ep, _, hi⟩ := hv'.list_at
      obtain ⟨x, hx⟩ : ∃ x, xs[k]? = some x := ⟨_, List.getElem?_eq_getElem (by rw [hi.1]; exact (List.getElem?_eq_some_iff.mp hd).1)⟩
      exact ⟨p, xs, n, x, rfl, rfl, .inl (.inl ep), atI_of hk hx, kk x H3 (g2.trans g3) (hi.2 k x d' hx hd)⟩)
  · exact of_pe (pe_ix ix_tup pe_S pe_S hs) (ha H1 g _ fun v H2 g2 hv => hb H2 (g.trans g2) _ fun u H3 g3 hu => by
      rw [hu.int_eq]
      have hv' := hv.mono g3
      rw [e] at hv'
      obtain ⟨p, xs, rfl, ep, _, hi⟩ := hv'.tup_at
      obtain ⟨x, hx⟩ : ∃ x, xs[k]? = some x := ⟨_, List.getElem?_eq_getElem (by rw [hi.1]; exact (List.getElem?_eq_some_iff.mp hd).1)⟩
      exact ⟨p, xs, n, x, rfl, rfl, .inl (.inl ep), atI_of hk hx, kk x H3 (g2.trans g3) (hi.2 k x d' hx hd)⟩)
/-- an int in a tuple or list of ints -/
theorem inV_ints (n : Int) (ks : List Int) : inV (.int n) (ks.map V.int) = decide (n ∈ ks) := by
  unfold inV
  induction ks with
  | nil => rfl
  | cons k ks ih =>
    rw [List.map_cons, List.any_cons, ih]
    by_cases h : k = n
    · subst h; simp [eqV]
    · have h' : ¬ (n = k) := fun z => h z.symm
      simp [eqV, h, h']
theorem Iss.ints {X : List Addr} {vs : List V} {ks : List Int} (h : Iss X H vs (ks.map PyData.int)) : vs = ks.map V.int := by
  refine List.ext_getElem? fun i => ?_
  rw [List.getElem?_map]
  by_cases c : i < vs.length
  · have hk : i < ks.length := by have := h.1; rw [List.length_map] at this; omega
    rw [List.getElem?_eq_getElem c, List.getElem?_eq_getElem hk]
    have := h.2 i vs[i] (.int ks[i]) (List.getElem?_eq_getElem c) (by rw [List.getElem?_map, List.getElem?_eq_getElem hk]; rfl)
    rw [this.int_eq]
    rfl
  · have hk : ¬ i < ks.length := by have := h.1; rw [List.length_map] at this; omega
    rw [List.getElem?_eq_none (by omega), List.getElem?_eq_none (by omega)]
    rfl
theorem ints_iss {X : List Addr} (ks : List Int) : Iss X H (ks.map V.int) (ks.map PyData.int) := by
  refine ⟨by rw [List.length_map, List.length_map], fun i v d h1 h2 => ?_⟩
  rw [List.getElem?_map] at h1 h2
  cases e : ks[i]? with
  | none => rw [e] at h1; cases h1
  | some k =>
    rw [e] at h1 h2
    cases h1
    cases h2
    exact .int k
theorem flat_ints (ks : List Int) : (ks.map V.int).all flatV = true := by
  rw [List.all_eq_true]
  intro v hv
  obtain ⟨k, _, rfl⟩ := List.mem_map.mp hv
  rfl
theorem co_inI {n : Int} {ks : List Int} (q : Sq d (ks.map PyData.int)) : CO B C .In (.int n) d (decide (n ∈ ks)) := ⟨_, op_in_seq, fun x y H hx hy Q k => by
  rw [hx.int_eq]
  obtain ⟨p, xs, rfl, _, hi, h⟩ := hy.sq (K := C.K) q
  have e := hi.ints
  subst e
  refine ⟨p, _, rfl, h.imp (·.1) (·.1), rfl, flat_ints ks, ?_⟩
  rw [if_neg (by decide), inV_ints]
  exact k⟩
theorem co_notInI {n : Int} {ks : List Int} (q : Sq d (ks.map PyData.int)) : CO B C .NotIn (.int n) d (!decide (n ∈ ks)) := ⟨_, op_notIn_seq, fun x y H hx hy Q k => by
  rw [hx.int_eq]
  obtain ⟨p, xs, rfl, _, hi, h⟩ := hy.sq (K := C.K) q
  have e := hi.ints
  subst e
  refine ⟨p, _, rfl, h.imp (·.1) (·.1), rfl, flat_ints ks, ?_⟩
  rw [if_pos rfl, inV_ints]
  exact k⟩
/-- comparisons as values, as tests; two in a chain -/
theorem ev_cmp {op : CmpOp} {k : Bool} (co : CO B C op d d' k) (ha : EV B C a σ H d) (hb : EV B C b σ H d') (hm : behindInMarks op b = false := by first | exact nomark _ | rfl) : EV B C (.Compare a [op] [b] pos) σ H (.bool k) := fun H1 g Q q => by
  obtain ⟨r, ho, hr⟩ := co
  exact of_pe (pe_cmpR ho pe_S pe_S hm) (ha H1 g _ fun v H2 g2 hv => hb H2 (g.trans g2) _ fun u H3 g3 hu => hr v u H3 (hv.mono g3) hu _ (q _ H3 (g2.trans g3) (.bl _)))
theorem et_cmp {op : CmpOp} {k : Bool} (co : CO B C op d d' k) (ha : EV B C a σ H d) (hb : EV B C b σ H d') (hm : behindInMarks op b = false := by first | exact nomark _ | rfl) : ET B C (.Compare a [op] [b] pos) σ H k := fun H1 g Q q => by
  obtain ⟨r, ho, hr⟩ := co
  exact of_pt (pt_cmpR ho pe_S pe_S hm) (ha H1 g _ fun v H2 g2 hv => hb H2 (g.trans g2) _ fun u H3 g3 hu => hr v u H3 (hv.mono g3) hu _ ⟨k, rfl, q H3 (g2.trans g3)⟩)
theorem ev_chain {op op' : CmpOp} {d2 : PyData} {k k' : Bool} (co : CO B C op d d' k) (co' : CO B C op' d' d2 k') (ha : EV B C a σ H d) (hb : EV B C b σ H d') (hc : EV B C c σ H d2)
    (hm : lastMarks [op, op'] [b, c] = false := by with_unfolding_all rfl) : EV B C (.Compare a [op, op'] [b, c] pos) σ H (.bool (k && k')) := fun H1 g Q q => by
  obtain ⟨r, ho, hr⟩ := co
  obtain ⟨r', ho', hr'⟩ := co'
  refine of_pe (pe_chain ho ho' pe_S pe_S pe_S hm) (ha H1 g _ fun v H2 g2 hv => hb H2 (g.trans g2) _ fun u H3 g3 hu => hr v u H3 (hv.mono g3) hu _ ⟨k, rfl, ?_⟩)
  cases k with
  | false => exact iteF (q _ H3 (g2.trans g3) (.bl false))
  | true => exact iteT (hc H3 (g.trans (g2.trans g3)) _ fun y H4 g4 hy => hr' u y H4 (hu.mono g4) hy _ (q _ H4 (g2.trans (g3.trans g4)) (.bl k')))
/-! ### arguments, displays -/
theorem ea_nil : EA B C [] σ H [] := ⟨_, pa_nil, fun H1 g Q q => q [] H1 g.self .nil⟩
theorem ea_cons {es : List Expr} {ds : List PyData} (h : EV B C a σ H d) (r : EA B C es σ H ds) (hs : starEach (a :: es) C.env = (false, eval a C.env) :: starEach es C.env := by rfl) : EA B C (a :: es) σ H (d :: ds) := by
  obtain ⟨t, pt, ht⟩ := r
  refine ⟨_, pa_cons pe_S pt hs, fun H1 g Q q => h H1 g _ fun v H2 g2 hv => ht H2 (g.trans g2) _ fun vs H3 g3 hvs => q _ H3 (g2.trans g3) (.cons (hv.mono g3) hvs)⟩
theorem ev_tup {es : List Expr} {ds : List PyData} {x1} (h : EA B C es σ H ds) (hl : ds.length ≤ sizeLine := by decide) : EV B C (.Tuple es x1 pos) σ H (.tuple ds) := fun H1 g Q q => by
  obtain ⟨t, pt, ht⟩ := h
  refine of_pe (pe_tup pt) (ht H1 g _ fun vs H2 g2 hvs => ⟨by rw [hvs.1]; exact hl, fun p hp => q _ _ (g2.trans (.new g2.tk hp)) ?_⟩)
  have hv := hvs.mono (Gr.new (o := .tup vs) g2.tk hp)
  exact .tup upd_same (g2.tk.notX hp) hv.1 hv.2
theorem ev_lst {es : List Expr} {ds : List PyData} (h : EA B C es σ H ds) (hl : ds.length ≤ sizeLine := by decide) : EV B C (.List es pos) σ H (.list ds) := fun H1 g Q q => by
  obtain ⟨t, pt, ht⟩ := h
  refine of_pe (pe_lst pt) (ht H1 g _ fun vs H2 g2 hvs => ⟨by rw [hvs.1]; exact hl, fun p hp => q _ _ (g2.trans (.new g2.tk hp)) ?_⟩)
  have hv := hvs.mono (Gr.new (o := .lst vs) g2.tk hp)
  exact .lst upd_same (g2.tk.notX hp) hv.1 hv.2
/-- tuple(xs) -/
theorem ev_tupleOf {ds : List PyData} {p' : Pos} (hg : Gl C "tuple") (hm : C.mg "tuple" = none) (ha : EV B C a σ H d) (q : Sq d ds) (hs : starEach [a] C.env = (false, eval a C.env) :: starEach [] C.env := by rfl) : EV B C (.Call (.Name "tuple" p') [a] [] pos) σ H (.tuple ds) := fun H1 g Q k =>
  of_pe (pe_callTy call_tuple_of hg hm boot_tuple (pa_cons pe_S pa_nil hs) (he := hs)) (ha H1 g _ fun v H2 g2 hv => by
    obtain ⟨p, xs, rfl, hx, hi, h⟩ := hv.sq (K := C.K) q
    refine ⟨p, xs, rfl, ?_⟩
    rcases h with ⟨h1, h2⟩ | ⟨h1, h2⟩
    · refine .inl ⟨h1, fun l hl => k _ _ (g2.trans (.new g2.tk hl)) ?_⟩
      have hv := hi.mono (Gr.new (o := .tup xs) g2.tk hl)
      exact .tup upd_same (g2.tk.notX hl) hv.1 hv.2
    · exact .inr ⟨h1, k _ _ g2 (.tup h2 hx hi.1 hi.2)⟩)
/-- lists put together -/
theorem ev_cat {ds es : List PyData} (ha : EV B C a σ H (.list ds)) (hb : EV B C b σ H (.list es)) (hl : ds.length + es.length ≤ sizeLine) : EV B C (.BinOp a .Add b pos) σ H (.list (ds ++ es)) := fun H1 g Q k =>
  of_pe (pe_op op_cat pe_S pe_S) (ha H1 g _ fun v H2 g2 hv => hb H2 (g.trans g2) _ fun u H3 g3 hu => by
    obtain ⟨p, xs, rfl, e1, x1, i1⟩ := (hv.mono g3).list_at
    obtain ⟨r, ys, rfl, e2, x2, i2⟩ := hu.list_at
    refine ⟨p, r, xs, ys, rfl, rfl, e1, e2, by rw [i1.1, i2.1]; exact hl, fun l hn => k _ _ (g2.trans (g3.trans (.new g3.tk hn))) ?_⟩
    have j1 := i1.mono (Gr.new (o := .lst (xs ++ ys)) g3.tk hn)
    have j2 := i2.mono (Gr.new (o := .lst (xs ++ ys)) g3.tk hn)
    have j : Iss B.X (upd H3 l (.lst (xs ++ ys))) (xs ++ ys) (ds ++ es) := by
      refine ⟨by rw [List.length_append, List.length_append, j1.1, j2.1], fun i w e h1 h2 => ?_⟩
      by_cases c : i < xs.length
      · rw [List.getElem?_append_left c] at h1
        rw [List.getElem?_append_left (by rw [← j1.1]; exact c)] at h2
        exact j1.2 i w e h1 h2
      · rw [List.getElem?_append_right (by omega)] at h1
        rw [List.getElem?_append_right (by rw [← j1.1]; omega), ← j1.1] at h2
        exact j2.2 _ w e h1 h2
    exact .lst upd_same (g3.tk.notX hn) j.1 j.2)
/-! ### tests -/
theorem et_val {k : Bool} (h : EV B C e σ H (.bool k)) (he : ∀ whole, isTrue e C.env whole = (do let v ← whole; standAt e.pos; holding [v] (truthy v)) := by intro _; rfl) : ET B C e σ H k := fun H1 g Q q =>
  of_pt (pt_val pe_S he) (h H1 g _ fun v H2 g2 hv => ⟨k, hv.bl_eq, q H2 g2⟩)
theorem et_not {k : Bool} (h : ET B C a σ H k) : ET B C (.UnaryOp .Not a pos) σ H (!k) := fun H1 g Q q => of_pt (pt_not pt_S) (h H1 g _ fun H2 g2 => q H2 g2)
/-- and, or: as tests -/
def EW (B : Amb) (C : Cx) (e : Expr) (σ : L2.St) (H : Hp) (k : Bool) : Prop := ∀ H1, Gr B H H1 → ∀ Q : Bool → Hp → Prop, (∀ H2, Gr B H1 H2 → Q k H2) → ∀ (wh : Sem Value) (pins : List (Addr × Obj)) (s : Shared), Inv C pins σ H1 s → wpAny (model C.prog C.w) C.A (isTrue e C.env wh) (TP C pins σ Q) C.xe s
def tSW (C : Cx) (e : Expr) : TT := fun σ H Q => ∀ (wh : Sem Value) (pins : List (Addr × Obj)) (s : Shared), Inv C pins σ H s → wpAny (model C.prog C.w) C.A (isTrue e C.env wh) (TP C pins σ Q) C.xe s
theorem pw_S {e : Expr} : PW C e (tSW C e) := ⟨fun wh pins s _ _ _ I h => h wh pins s I⟩
theorem et_w {k : Bool} (h : EW B C e σ H k) : ET B C e σ H k := fun H1 g Q q pins s I => h H1 g Q q _ pins s I
theorem ew_and1 {k : Bool} (h : ET B C a σ H k) : EW B C (.BoolOp .And [a] pos) σ H k := fun H1 g Q q wh pins s I => (pw_and1 pt_S).run wh pins s σ H1 Q I (h H1 g Q q)
theorem ew_or1 {k : Bool} (h : ET B C a σ H k) : EW B C (.BoolOp .Or [a] pos) σ H k := fun H1 g Q q wh pins s I => (pw_or1 pt_S).run wh pins s σ H1 Q I (h H1 g Q q)
theorem ew_and {k k' : Bool} {rest : List Expr} (h : ET B C a σ H k) (r : k = true → EW B C (.BoolOp .And (b :: rest) pos) σ H k') : EW B C (.BoolOp .And (a :: b :: rest) pos) σ H (k && k') := fun H1 g Q q wh pins s I =>
  (pw_and pt_S pw_S).run wh pins s σ H1 Q I (h H1 g _ fun H2 g2 => by
    cases k with
    | false => exact iteF (q H2 g2)
    | true => exact iteT (r rfl H2 (g.trans g2) Q fun H3 g3 => q H3 (g2.trans g3)))
theorem ew_or {k k' : Bool} {rest : List Expr} (h : ET B C a σ H k) (r : k = false → EW B C (.BoolOp .Or (b :: rest) pos) σ H k') : EW B C (.BoolOp .Or (a :: b :: rest) pos) σ H (k || k') := fun H1 g Q q wh pins s I =>
  (pw_or pt_S pw_S).run wh pins s σ H1 Q I (h H1 g _ fun H2 g2 => by
    cases k with
    | true => exact iteT (q H2 g2)
    | false => exact iteF (r rfl H2 (g.trans g2) Q fun H3 g3 => q H3 (g2.trans g3)))
theorem et_and {k k' : Bool} (h : ET B C a σ H k) (r : k = true → ET B C b σ H k') : ET B C (.BoolOp .And [a, b] pos) σ H (k && k') := et_w (ew_and h fun q => ew_and1 (r q))
theorem et_or {k k' : Bool} (h : ET B C a σ H k) (r : k = false → ET B C b σ H k') : ET B C (.BoolOp .Or [a, b] pos) σ H (k || k') := et_w (ew_or h fun q => ew_or1 (r q))
/-- .. as values -/
theorem ev_not {k : Bool} (h : EV B C a σ H (.bool k)) : EV B C (.UnaryOp .Not a pos) σ H (.bool (!k)) := fun H1 g Q q => of_pe (pe_not pe_S) (h H1 g _ fun v H2 g2 hv => ⟨k, hv.bl_eq, q _ H2 g2 (.bl _)⟩)
theorem ev_and {k k' : Bool} (h : EV B C a σ H (.bool k)) (r : k = true → EV B C b σ H (.bool k')) : EV B C (.BoolOp .And [a, b] pos) σ H (.bool (k && k')) := fun H1 g Q q =>
  of_pe (pe_and pe_S (pe_one pe_S)) (h H1 g _ fun v H2 g2 hv => ⟨k, hv.bl_eq, by
    cases k with
    | false => exact iteF (q _ H2 g2 (.bl _))
    | true => exact iteT (r rfl H2 (g.trans g2) _ fun u H3 g3 hu => q u H3 (g2.trans g3) hu)⟩)
theorem ev_or {k k' : Bool} (h : EV B C a σ H (.bool k)) (r : k = false → EV B C b σ H (.bool k')) : EV B C (.BoolOp .Or [a, b] pos) σ H (.bool (k || k')) := fun H1 g Q q =>
  of_pe (pe_or pe_S (pe_one pe_S)) (h H1 g _ fun v H2 g2 hv => ⟨k, hv.bl_eq, by
    cases k with
    | true => exact iteT (q _ H2 g2 (.bl _))
    | false => exact iteF (r rfl H2 (g.trans g2) _ fun u H3 g3 hu => q u H3 (g2.trans g3) hu)⟩)
theorem ev_if {k : Bool} (h : ET B C c σ H k) (h1 : k = true → EV B C a σ H d) (h2 : k = false → EV B C b σ H d) : EV B C (.IfExp c a b pos) σ H d := fun H1 g Q q =>
  of_pe (pe_ifExp pt_S pe_S pe_S) (h H1 g _ fun H2 g2 => by
    cases k with
    | true => exact iteT (h1 rfl H2 (g.trans g2) Q fun v H3 g3 hv => q v H3 (g2.trans g3) hv)
    | false => exact iteF (h2 rfl H2 (g.trans g2) Q fun v H3 g3 hv => q v H3 (g2.trans g3) hv))
end
end K22
end
section
set_option Elab.async false
set_option linter.all false
set_option maxRecDepth 100000
set_option maxHeartbeats 4000000
/-! K22Enum: enumerate of a tuple. -/
namespace K22
open PySem PySem.Spec PyProof.Rows L2 NdefX
theorem meets_enum1 {v : Value} {o : Obj} {G : Heap → Prop} (B : Begins v o G) :
    Meets (Builtin.«enumerate.__new__» ⟨[.type "enumerate", v], []⟩) (fun _ R s => G s.heap ∧
      R (.ok (.ret (.ref (s.heap.push o).objs.size))) { s with heap := (s.heap.push o).push { cls := .type "enumerate", data := .fields #[.none, .bool false, .ref s.heap.objs.size, rawInt 0, .none, .none] } }) :=
  .of_wp fun prog w A R s h => by
    obtain ⟨hp, g, d, tk, os⟩ := s; obtain ⟨h1, h⟩ := h
    have hsub := sub_enumerate
    have q1 : ∀ {A' : Around} {E : Value → Shared → Prop} {Q : Value → Shared → Prop}, Q (.ref hp.objs.size) ⟨hp.push o, g, d, tk, os⟩ → wpAny (model prog w) A' (pyIter v) Q E ⟨hp, g, d, tk, os⟩ :=
      fun q => B.iter prog w _ _ ⟨hp, g, d, tk, os⟩ _ h1 q
    wp_walk using q1
    refine wpAny_stack_any fun st => wpAny_pure ?_
    split
    · rename_i c _ _ _ _ _
      cases (c == Value.type "enumerate")
      · wp_walk using q1
        exact ⟨_, rfl, h⟩
      · wp_walk using q1
        exact ⟨_, rfl, h⟩
    · wp_walk using q1
      exact ⟨_, rfl, h⟩
theorem call_enum1 {prog : Program} {w : World} {A : Around} {E : Value → Shared → Prop} {s : Shared} {v : Value} {o : Obj} {G : Heap → Prop} {Q : Value → Shared → Prop} (B : Begins v o G) (h1 : G s.heap)
    (h : ∀ h', IsEnum h' (s.heap.objs.size + 1) s.heap.objs.size 0 .none → h'.get? s.heap.objs.size = some o → h'.objs.size = s.heap.objs.size + 2 →
      (∀ b o, s.heap.get? b = some o → h'.get? b = some o) → Q (.ref (s.heap.objs.size + 1)) { s with heap := h' }) :
    wpAny (model prog w) A (call (.type "enumerate") [v]) Q E s := by
  refine callType_new F.called_enumerate (by decide) (F.typeCall_enumerate_1 _) (F.newCall_enumerate_1 _) (fun obj => F.args_object_init_2 obj _) F.entry_enumerate_new
    (meets_enum1 B) ⟨h1, ?_⟩
  have hz : (s.heap.push o).objs.size = s.heap.objs.size + 1 := Heap.size_push ..
  show _ ∧ _
  rw [hz]
  have he : IsEnum ((s.heap.push o).push { cls := .type "enumerate", data := .fields #[.none, .bool false, .ref s.heap.objs.size, rawInt 0, .none, .none] }) (s.heap.objs.size + 1) s.heap.objs.size 0 .none := by
    have := Heap.get?_push_size (s.heap.push o) (o := { cls := .type "enumerate", data := .fields #[.none, .bool false, .ref s.heap.objs.size, rawInt 0, .none, .none] }) rfl
    rw [hz] at this
    exact this
  exact ⟨⟨_, he, rfl⟩, h _ he (Heap.get?_push_of_some _ (Heap.get?_push_size _ B.free)) (by rw [Heap.size_push, hz]) fun b o x => Heap.get?_push_of_some _ (Heap.get?_push_of_some _ x)⟩
/-- the tuple at a, each item in a new pair -/
def IteT (K : PySem.W.Frag) (a : Addr) : It :=
  ⟨fun i H => ∃ (xs : List V) (x : V), SqT K H a xs ∧ xs[i]? = some x, fun i H v H' => ∃ T x, v = .ref T ∧ H T = none ∧ H' = upd H T (.tup [.int (i : Nat), x]) ∧ ∀ xs, SqT K H a xs → xs[i]? = some x, fun i H => ∃ xs : List V, SqT K H a xs ∧ xs.length = i⟩
theorem turn_enumT {P : Program} {w : World} {K : PySem.W.Frag} {elts : List Expr} {kk : Nat} {tpos : Pos} (a e it : Addr) (hae : a ≠ e) (hai : a ≠ it) :
    Turn P w K (.Tuple elts kk tpos) (IteT K a) [e, it] e (fun i h => (∃ old, IsEnum h e it ((i : Nat) : Int) old) ∧ h.IsTupleIter it a i ∧ e ≠ it) where
  mem := by simp
  obj := fun i h st b hb => by
    obtain ⟨⟨old, he⟩, ⟨o, ho, hc, hd⟩, _⟩ := st
    have e' : b = e ∨ b = it := by simpa using hb
    rcases e' with z | z
    · rw [z]; exact ⟨_, he, fun v q => nomatch q⟩
    · rw [z]; exact ⟨o, ho, fun v q => by rw [hd] at q; cases q⟩
  keep := fun i h h' st k => let ⟨⟨old, he⟩, hi, hne⟩ := st; ⟨⟨old, k e (by simp) _ he⟩, hi.at fun o q => k it (by simp) o q, hne⟩
  item := by
    intro X hP hw hK hc i pins s σ H E I hf st hg
    subst hP hw hK
    obtain ⟨⟨old, he⟩, hit, hne⟩ := st
    obtain ⟨xs, x, hq, hx⟩ := hg
    obtain ⟨its, rv, p, hz⟩ := I.tuple hq
    obtain ⟨u, hu, ru⟩ := rv.get hx
    have hel : e < s.heap.objs.size := Heap.lt_size he
    have hil : it < s.heap.objs.size := by obtain ⟨_, q, _⟩ := hit; exact Heap.lt_size q
    have hilt : i < its.toArray.size := by
      have := (List.getElem?_eq_some_iff.mp hu).1
      simpa using this
    have D := Draws.tuple (prog := X.prog) (w := X.w) (A := X.A.in1) (I.ok.hd hc) it a hai its.toArray
    refine wpAny_pyNext_enum_itemD D he ⟨hit, p⟩ hilt hne (by
      intro z
      rcases List.mem_cons.mp z with z | z
      · exact hne z
      · exact hae (List.mem_singleton.mp z).symm) fun y h' tk hy ho hst' hT hsz hk => ?_
    obtain ⟨hit', _⟩ := hst'
    have hyu : y = u := by
      have hy : its.toArray[i]? = some y := hy
      have hu' : its.toArray[i]? = some u := by simpa using hu
      rw [hu'] at hy
      exact (Option.some.inj hy).symm
    subst hyu
    refine ⟨_, rfl, wpAny_letOwnedTupleGo_enum (s := { s with heap := h', toks := tk + 1 }) ho fun h'' he' sb => ?_⟩
    have hT2 : h''.get? s.heap.objs.size = some { cls := .type "tuple", data := .seq #[.int i tk, y] } := (sb.2 _ (Nat.ne_of_gt hel)).trans hT
    have new : ObjOk X.prog X.w (upd H s.heap.objs.size (.tup [.int (i : Nat), x])) h'' s.heap.objs.size (.tup [.int (i : Nat), x]) :=
      ⟨by show 2 ≤ sizeLine; decide, [.int i tk, y], .cons ⟨_, rfl⟩ (.cons ru .nil), ⟨_, hT2, rfl, _, rfl⟩⟩
    have I1 : Inv X pins σ (upd H s.heap.objs.size (.tup [.int (i : Nat), x])) { s with heap := h'', toks := tk + 1 } :=
      I.turnedNew (ch := [e, it]) (fun b ob hb q => (sb.2 b (fun z => hb (by simp [z]))).trans (hk b ob (fun z => hb (by simp [z])) (fun z => hb (by simp [z])) q)) hf (Nat.le_refl _) new
    refine ⟨.ref s.heap.objs.size, _, I1, rfl, ⟨_, x, rfl, I.hok.fresh (Nat.le_refl _), rfl, fun ys hy => by rw [I.tuple_inj hy hq]; exact hx⟩, ⟨⟨y, ?_⟩, hit'.at fun o q => (sb.2 it (Ne.symm hne)).trans q, hne⟩, fun b hb => ?_⟩
    · have e1 : ((i + 1 : Nat) : Int) = (i : Int) + 1 := by omega
      rw [e1]; exact he'
    · have hb' : b < s.heap.objs.size := by
        have e' : b = e ∨ b = it := by simpa using hb
        rcases e' with z | z
        · rw [z]; exact hel
        · rw [z]; exact hil
      rw [upd_ne (Nat.ne_of_lt hb')]
      exact (hf b hb).1
  done := by
    intro X hP hw hK hc i pins s σ H E I hf st hg
    subst hP hw hK
    obtain ⟨⟨old, he⟩, hit, hne⟩ := st
    obtain ⟨xs, hq, hx⟩ := hg
    obtain ⟨its, rv, p, hz⟩ := I.tuple hq
    obtain ⟨f0, f1, f2, f3, f4, f5⟩ := hf it (by simp)
    have hl : its.toArray.size = i := by rw [← hx, rv.length]; simp
    have D := Draws.tuple (prog := X.prog) (w := X.w) (A := X.A.in1) (I.ok.hd hc) it a hai its.toArray
    exact wpAny_pyNext_enum_endD D he ⟨by rw [hl]; exact hit, p⟩ fun h' eb => ⟨rfl, I.turned (t' := s.toks) (fun b o hb q => eb b o hb q) f0 f1 f3 f4 f5⟩
  self := fun A i s Q E st h => let ⟨⟨_, he⟩, _⟩ := st; wpAny_pyIter_enum he h
def iEnumT (K : PySem.W.Frag) (ta : TA) : TI := fun σ H R => ta σ H fun vs H1 => ∃ a xs, vs = [.ref a] ∧ H1 a = some (.tup xs) ∧ R (IteT K a) H1
theorem pi_enumT {X : Cx} {e : Expr} {ta : TA} {p pos tpos : Pos} {elts : List Expr} {kk : Nat} (hg : Gl X "enumerate") (hm : X.mg "enumerate" = none) (ha : PA X [e] ta) (hs : starEach [e] X.env = [(false, eval e X.env)] := by rfl) :
    PI X (.Tuple elts kk tpos) (.Call (.Name "enumerate" p) [e] [] pos) (iEnumT X.K ta) := by
  refine ⟨fun pins s σ H R I h => ?_⟩
  refine Call_ (ld_blt I hg hm boot_enumerate (PyProof.Rows.callWith_type1 (thn (ha.run pos pins s σ H _ I h) fun us s1 ⟨vs, H1, I1, r1, q1⟩ => ?_) hs rfl))
  obtain ⟨a, xs, ex, hq, q⟩ := q1
  subst ex
  cases r1 with
  | cons r rr =>
    cases rr
    cases r
    obtain ⟨its, rv, p', hz⟩ := I1.tuple (.inl (.inl hq))
    have hlt : a < s1.heap.objs.size := I1.hok.lt hq
    refine call_enum1 (begins_tuple a its.toArray) p' fun h' he hit hsz hk => wpAny_pyIter_enum he ?_
    have I2 : Inv X pins σ H1 { s1 with heap := h' } := I1.kept (t' := s1.toks) hk
    refine ⟨s1.heap.objs.size + 1, [s1.heap.objs.size + 1, s1.heap.objs.size], _, _, H1, rfl, I2, turn_enumT a (s1.heap.objs.size + 1) s1.heap.objs.size (Nat.ne_of_lt (Nat.lt_succ_of_lt hlt)) (Nat.ne_of_lt hlt), ⟨⟨.none, he⟩, ⟨_, hit, rfl, rfl⟩, Nat.succ_ne_self _⟩, fun b hb => ?_, q⟩
    have e' : b = s1.heap.objs.size + 1 ∨ b = s1.heap.objs.size := by simpa using hb
    have hle : s1.heap.objs.size ≤ b := by
      rcases e' with z | z
      · rw [z]; exact Nat.le_add_right _ _
      · rw [z]; exact Nat.le_refl _
    exact I1.fpOk hle (I1.hok.fresh hle)
end K22
end
section
set_option Elab.async false
set_option linter.all false
set_option maxRecDepth 100000
set_option maxHeartbeats 4000000
/-! K22EvL: what is walked, comprehensions, generator expressions and statements, over the layer of data. -/
namespace K22
open PySem PySem.Spec PyProof.Rows L2 NdefX
/-- the iterator gives the data xs -/
def Walks (B : Amb) (J : It) (xs : List PyData) (H0 : Hp) : Prop := ∀ H (i : Nat), Gx B H0 H → (∀ d, xs[i]? = some d → J.go i H ∧ ∀ x H', J.yld i H x H' → Gr B H H' ∧ Is B.X H' x d) ∧ (i = xs.length → J.stop i H)
theorem Walks.later {B : Amb} {J : It} {xs : List PyData} {H0 H1 : Hp} (w : Walks B J xs H0) (g : Gx B H0 H1) : Walks B J xs H1 := fun H i h => w H i (g.trans h)
def EI (B : Amb) (C : Cx) (tg iter : Expr) (σ : L2.St) (H : Hp) (xs : List PyData) : Prop :=
  ∃ wi : TI, PI C tg iter wi ∧ ∀ H1, Gr B H H1 → ∀ R : It → Hp → Prop, (∀ J H2, Gr B H1 H2 → Walks B J xs H2 → R J H2) → wi σ H1 R
theorem walks_list {B : Amb} {K : PySem.W.Frag} {H : Hp} {p : Addr} {vs : List V} {ds : List PyData} (e : H p = some (.lst vs)) (hx : p ∉ B.X) (hi : Iss B.X H vs ds) : Walks B (Itl K p) ds H := fun H1 i g => by
  have e1 := g.keep p _ e (fun ps z => by cases z) hx
  have hi1 := hi.monoX g
  refine ⟨fun d hd => ?_, fun hi => ⟨vs, .inl (.inl e1), by rw [hi1.1]; omega⟩⟩
  obtain ⟨v, hv⟩ : ∃ v, vs[i]? = some v := ⟨_, List.getElem?_eq_getElem (by rw [hi1.1]; exact (List.getElem?_eq_some_iff.mp hd).1)⟩
  refine ⟨⟨vs, v, .inl (.inl e1), hv⟩, fun x H' ⟨q1, q2⟩ => ?_⟩
  subst q1
  exact ⟨.refl g.tk, hi1.2 i x d (q2 vs (.inl (.inl e1))) hd⟩
theorem walks_tup {B : Amb} {K : PySem.W.Frag} {H : Hp} {p : Addr} {vs : List V} {ds : List PyData} (e : H p = some (.tup vs)) (hx : p ∉ B.X) (hi : Iss B.X H vs ds) : Walks B (Itt K p) ds H := fun H1 i g => by
  have e1 := g.keep p _ e (fun ps z => by cases z) hx
  have hi1 := hi.monoX g
  refine ⟨fun d hd => ?_, fun hi => ⟨vs, .inl (.inl e1), by rw [hi1.1]; omega⟩⟩
  obtain ⟨v, hv⟩ : ∃ v, vs[i]? = some v := ⟨_, List.getElem?_eq_getElem (by rw [hi1.1]; exact (List.getElem?_eq_some_iff.mp hd).1)⟩
  refine ⟨⟨vs, v, .inl (.inl e1), hv⟩, fun x H' ⟨q1, q2⟩ => ?_⟩
  subst q1
  exact ⟨.refl g.tk, hi1.2 i x d (q2 vs (.inl (.inl e1))) hd⟩
/-- 0, 1, .. -/
def rangeD (n : Nat) : List PyData := (List.range n).map fun i : Nat => PyData.int (i : Int)
/-- numbered -/
def enumD (ds : List PyData) : List PyData := ds.zipIdx.map fun p => PyData.tuple [.int (p.2 : Int), p.1]
theorem enumD_len (ds : List PyData) : (enumD ds).length = ds.length := by unfold enumD; rw [List.length_map, List.length_zipIdx]
theorem enumD_at {ds : List PyData} {i : Nat} {d : PyData} (h : (enumD ds)[i]? = some d) : ∃ d0, ds[i]? = some d0 ∧ d = .tuple [.int (i : Int), d0] := by
  unfold enumD at h
  rw [List.getElem?_map, List.getElem?_zipIdx] at h
  cases e : ds[i]? with
  | none => rw [e] at h; cases h
  | some d0 =>
    rw [e] at h
    cases h
    exact ⟨d0, rfl, by simp⟩
theorem walks_range {B : Amb} {H : Hp} {n : Nat} : Walks B (Itr 0 n) (rangeD n) H := fun H1 i g => by
  refine ⟨fun d hd => ?_, fun hi => ?_⟩
  · unfold rangeD at hd
    rw [List.getElem?_map] at hd
    cases e : (List.range n)[i]? with
    | none => rw [e] at hd; cases hd
    | some j =>
      rw [e] at hd
      cases hd
      obtain ⟨h1, h2⟩ := List.getElem?_eq_some_iff.mp e
      rw [List.getElem_range] at h2
      subst h2
      rw [List.length_range] at h1
      refine ⟨h1, fun x H' ⟨q1, q2⟩ => ?_⟩
      subst q1
      subst q2
      refine ⟨.refl g.tk, ?_⟩
      rw [Int.zero_add]
      exact .int _
  · subst hi
    show n ≤ (rangeD n).length
    unfold rangeD
    rw [List.length_map, List.length_range]
    exact Nat.le_refl _
theorem pair_is {B : Amb} {H : Hp} {T : Addr} {i : Nat} {x : V} {d0 : PyData} (t : TK B H) (hT : H T = none) (hx : Is B.X H x d0) : Gr B H (upd H T (.tup [.int (i : Int), x])) ∧ Is B.X (upd H T (.tup [.int (i : Int), x])) (.ref T) (.tuple [.int (i : Int), d0]) := by
  have g := Gr.new (o := .tup [V.int (i : Int), x]) t hT
  have h : Iss B.X (upd H T (.tup [.int (i : Int), x])) [V.int (i : Int), x] [PyData.int (i : Int), d0] := .cons (.int _) (.cons (hx.mono g) .nil)
  exact ⟨g, .tup upd_same (t.notX hT) h.1 h.2⟩
theorem walks_enumL {B : Amb} {K : PySem.W.Frag} {H : Hp} {p : Addr} {vs : List V} {ds : List PyData} (e : H p = some (.lst vs)) (hx : p ∉ B.X) (hi : Iss B.X H vs ds) : Walks B (Ite K p) (enumD ds) H := fun H1 i g => by
  have e1 := g.keep p _ e (fun ps z => by cases z) hx
  have hi1 := hi.monoX g
  refine ⟨fun d hd => ?_, fun hi => ⟨vs, .inl (.inl e1), by rw [hi1.1, hi, enumD_len]; exact Nat.le_refl _⟩⟩
  obtain ⟨d0, h0, rfl⟩ := enumD_at hd
  obtain ⟨v, hv⟩ : ∃ v, vs[i]? = some v := ⟨_, List.getElem?_eq_getElem (by rw [hi1.1]; exact (List.getElem?_eq_some_iff.mp h0).1)⟩
  refine ⟨⟨vs, v, .inl (.inl e1), hv⟩, fun x H' ⟨T, y, q1, q2, q3, q4⟩ => ?_⟩
  subst q1
  subst q3
  exact pair_is g.tk q2 (hi1.2 i y d0 (q4 vs (.inl (.inl e1))) h0)
theorem walks_enumT {B : Amb} {K : PySem.W.Frag} {H : Hp} {p : Addr} {vs : List V} {ds : List PyData} (e : H p = some (.tup vs)) (hx : p ∉ B.X) (hi : Iss B.X H vs ds) : Walks B (IteT K p) (enumD ds) H := fun H1 i g => by
  have e1 := g.keep p _ e (fun ps z => by cases z) hx
  have hi1 := hi.monoX g
  refine ⟨fun d hd => ?_, fun hi => ⟨vs, .inl (.inl e1), by rw [hi1.1, hi, enumD_len]⟩⟩
  obtain ⟨d0, h0, rfl⟩ := enumD_at hd
  obtain ⟨v, hv⟩ : ∃ v, vs[i]? = some v := ⟨_, List.getElem?_eq_getElem (by rw [hi1.1]; exact (List.getElem?_eq_some_iff.mp h0).1)⟩
  refine ⟨⟨vs, v, .inl (.inl e1), hv⟩, fun x H' ⟨T, y, q1, q2, q3, q4⟩ => ?_⟩
  subst q1
  subst q3
  exact pair_is g.tk q2 (hi1.2 i y d0 (q4 vs (.inl (.inl e1))) h0)
section
variable {B : Amb} {C : Cx} {a e tg iter elt : Expr} {σ : L2.St} {H : Hp} {d : PyData} {pos : Pos}
theorem ei_list {ds : List PyData} (h : EV B C a σ H (.list ds)) : EI B C tg a σ H ds := ⟨_, pi_list pe_S, fun H1 g R k => h H1 g _ fun v H2 g2 hv => by
  obtain ⟨p, xs, rfl, ep, hx, hi⟩ := hv.list_at
  exact ⟨p, rfl, ⟨xs, .inl (.inl ep)⟩, k _ H2 g2 (walks_list ep hx hi)⟩⟩
theorem ei_tup {ds : List PyData} (h : EV B C a σ H (.tuple ds)) : EI B C tg a σ H ds := ⟨_, pi_tup pe_S, fun H1 g R k => h H1 g _ fun v H2 g2 hv => by
  obtain ⟨p, xs, rfl, ep, hx, hi⟩ := hv.tup_at
  exact ⟨p, rfl, ⟨xs, .inl (.inl ep)⟩, k _ H2 g2 (walks_tup ep hx hi)⟩⟩
theorem ei_range {n : Nat} {p' : Pos} (hg : Gl C "range") (hm : C.mg "range" = none) (h : EV B C a σ H (.int (n : Int))) (hn : n ≤ 1000000) (hs : starEach [a] C.env = [(false, eval a C.env)] := by rfl) (hs2 : starEach [a] C.env = (false, eval a C.env) :: starEach [] C.env := by rfl) :
    EI B C tg (.Call (.Name "range" p') [a] [] pos) σ H (rangeD n) := ⟨_, pi_range1 hg hm (pa_cons pe_S pa_nil hs2) hs, fun H1 g R k => h H1 g _ fun v H2 g2 hv => by
  rw [hv.int_eq]
  refine ⟨(n : Int), rfl, by omega, by omega, k _ H2 g2 ?_⟩
  exact walks_range⟩
theorem ei_enumL {ds : List PyData} {elts : List Expr} {kk : Nat} {p' tpos : Pos} (hg : Gl C "enumerate") (hm : C.mg "enumerate" = none) (h : EV B C a σ H (.list ds)) (hs : starEach [a] C.env = [(false, eval a C.env)] := by rfl) (hs2 : starEach [a] C.env = (false, eval a C.env) :: starEach [] C.env := by rfl) :
    EI B C (.Tuple elts kk tpos) (.Call (.Name "enumerate" p') [a] [] pos) σ H (enumD ds) := ⟨_, pi_enum hg hm (pa_cons pe_S pa_nil hs2) hs, fun H1 g R k => h H1 g _ fun v H2 g2 hv => by
  obtain ⟨p, xs, rfl, ep, hx, hi⟩ := hv.list_at
  exact ⟨p, xs, rfl, .inl (.inl ep), k _ H2 g2 (walks_enumL ep hx hi)⟩⟩
theorem ei_enumT {ds : List PyData} {elts : List Expr} {kk : Nat} {p' tpos : Pos} (hg : Gl C "enumerate") (hm : C.mg "enumerate" = none) (h : EV B C a σ H (.tuple ds)) (hs : starEach [a] C.env = [(false, eval a C.env)] := by rfl) (hs2 : starEach [a] C.env = (false, eval a C.env) :: starEach [] C.env := by rfl) :
    EI B C (.Tuple elts kk tpos) (.Call (.Name "enumerate" p') [a] [] pos) σ H (enumD ds) := ⟨_, pi_enumT hg hm (pa_cons pe_S pa_nil hs2) hs, fun H1 g R k => h H1 g _ fun v H2 g2 hv => by
  obtain ⟨p, xs, rfl, ep, hx, hi⟩ := hv.tup_at
  exact ⟨p, xs, rfl, ep, k _ H2 g2 (walks_enumT ep hx hi)⟩⟩
end
/-! ### targets -/
inductive Pat
  | nm (i : Nat)
  | two (p q : Pat)
/-- the data fits the target -/
def Shape : Pat → PyData → Prop
  | .nm _, _ => True
  | .two p q, d => ∃ d1 d2, d = .tuple [d1, d2] ∧ Shape p d1 ∧ Shape q d2
/-- the slots behind the target's store -/
def Put (X : List Addr) (H : Hp) : Pat → PyData → L2.St → L2.St → Prop
  | .nm i, d, σ, σ' => ∃ v, σ' = σ.set i (some v) ∧ Is X H v d
  | .two p q, d, σ, σ' => ∃ d1 d2 σ1, d = .tuple [d1, d2] ∧ Put X H p d1 σ σ1 ∧ Put X H q d2 σ1 σ'
abbrev Fam := Cx → Prop
def EG (B : Amb) (F : Fam) (tg : Expr) (pat : Pat) : Prop := ∃ g : TG, (∀ C, F C → PG C tg g) ∧ ∀ d v σ H (Q : L2.St → Hp → Prop), Is B.X H v d → Shape pat d → (∀ σ', Put B.X H pat d σ σ' → Q σ' H) → g v σ H Q
theorem eg_nm {B : Amb} {F : Fam} {i : Nat} {x : Str} {px : Pos} (h : ∀ C, F C → PG C (.Name x px) (gName i)) : EG B F (.Name x px) (.nm i) := ⟨gName i, h, fun d v σ H Q hv _ k => k _ ⟨v, rfl, hv⟩⟩
theorem eg_two {B : Amb} {F : Fam} {t1 t2 : Expr} {kk : Nat} {tp : Pos} {p q : Pat} (K : PySem.W.Frag) (h1 : EG B F t1 p) (h2 : EG B F t2 q) (hK : ∀ C, F C → C.K = K) (hc : ∀ C, F C → C.calm = true) : 
    (∀ C, F C → (assignEach [t1, t2] C.env).length = 2 ∧ (assignEach [t1, t2] C.env).findIdx? (·.1) = none ∧ (assignEach (t1 :: [t2]) C.env).map (·.2) = assign t1 C.env :: (assignEach [t2] C.env).map (·.2) ∧ (assignEach (t2 :: []) C.env).map (·.2) = assign t2 C.env :: (assignEach [] C.env).map (·.2)) → EG B F (.Tuple [t1, t2] kk tp) (.two p q) := fun hs => by
  obtain ⟨g1, f1, k1⟩ := h1
  obtain ⟨g2, f2, k2⟩ := h2
  refine ⟨gTup K 2 (gCons g1 (gCons g2 gNil)), fun C hC => ?_, fun d v σ H Q hv hs k => ?_⟩
  · obtain ⟨a1, a2, a3, a4⟩ := hs C hC
    rw [← hK C hC]
    exact pg_tup (hc C hC) (pgs_cons (f1 C hC) (pgs_cons (f2 C hC) pgs_nil a4) a3) a1 a2
  · obtain ⟨d1, d2, rfl, s1, s2⟩ := hs
    obtain ⟨p', xs, rfl, e, hx, hi⟩ := hv.tup_at
    obtain ⟨v1, v2, rfl⟩ : ∃ v1 v2, xs = [v1, v2] := by
      match xs, hi.1 with
      | [v1, v2], _ => exact ⟨v1, v2, rfl⟩
    refine ⟨p', _, rfl, .inl (.inl e), rfl, v1, [v2], rfl, ?_⟩
    refine k1 d1 v1 σ H _ (hi.2 0 v1 d1 rfl rfl) s1 fun σ1 hp => ⟨v2, [], rfl, ?_⟩
    exact k2 d2 v2 σ1 H _ (hi.2 1 v2 d2 rfl rfl) s2 fun σ2 hq => ⟨rfl, k σ2 ⟨d1, d2, σ1, rfl, hp, hq⟩⟩
/-- data without lists -/
inductive LF : PyData → Prop
  | non : LF .none
  | bl (b : Bool) : LF (.bool b)
  | int (i : Int) : LF (.int i)
  | str (x : Str) : LF (.str x)
  | tup {ds : List PyData} (h : ∀ d ∈ ds, LF d) : LF (.tuple ds)
theorem LF.is {X : List Addr} {H : Hp} {D : Addr} {ws ws' : List V} (hD : H D = some (.lst ws)) {v : V} {d : PyData} (h : Is X H v d) : LF d → Is X (upd H D (.lst ws')) v d := by
  induction h with
  | non => exact fun _ => .non
  | bl b => exact fun _ => .bl b
  | int i => exact fun _ => .int i
  | str x => exact fun _ => .str x
  | lst e hx hl _ ih => exact fun z => by cases z
  | tup e hx hl _ ih =>
    intro z
    cases z with
    | tup hz =>
      refine .tup (by rw [upd_ne (fun q => by rw [q, hD] at e; cases e)]; exact e) hx hl fun i w d' h1 h2 => ih i w d' h1 h2 (hz d' (List.mem_of_getElem? h2))
theorem lf_pair {a b : PyData} (ha : LF a) (hb : LF b) : LF (.tuple [a, b]) := .tup fun d hd => by
  rcases List.mem_cons.mp hd with e | hd
  · rw [e]; exact ha
  · rw [List.mem_singleton.mp hd]; exact hb
/-! ### the elements of a comprehension -/
def tSG (C : Cx) (tg : Expr) : TG := fun v σ H Q => ∀ (pins : List (Addr × Obj)) (s : Shared) (u : Value), Inv C pins σ H s → RelV v u → wpAny (model C.prog C.w) C.A (assign tg C.env u) (fun _ s' => ∃ σ' H', Inv C pins σ' H' s' ∧ Q σ' H') C.xe s
def tSs (C : Cx) (ifs : List Expr) : TT := fun σ H Q => ∀ (pins : List (Addr × Obj)) (s : Shared), Inv C pins σ H s →
  wpAny (model C.prog C.w) C.A (forIn ifs true fun c r => if r = true then do let ok ← isTrue c C.env (eval c C.env); pure (ForInStep.yield ok) else pure (ForInStep.yield r)) (TP C pins σ Q) C.xe s
/-- .. in every context of a family -/
def FG (F : Fam) (tg : Expr) : TG := fun v σ H Q => ∀ C, F C → tSG C tg v σ H Q
def FT (F : Fam) (ifs : List Expr) : TT := fun σ H Q => ∀ C, F C → tSs C ifs σ H Q
def FE (F : Fam) (e : Expr) : TE := fun σ H Q => ∀ C, F C → tS C e σ H Q
theorem pg_F {F : Fam} {tg : Expr} {C : Cx} (h : F C) : PG C tg (FG F tg) := ⟨fun pins s σ H v u Q I r q => q C h pins s u I r⟩
theorem pts_F {F : Fam} {ifs : List Expr} {C : Cx} (h : F C) : PTs C ifs (FT F ifs) := ⟨fun pins s σ H Q I q => q C h pins s I⟩
theorem pe_F {F : Fam} {e : Expr} {C : Cx} (h : F C) : PE C e (FE F e) := ⟨fun pins s σ H Q I q => q C h pins s I⟩
/-- the tests say b; where b, the element is the data of o; else o is none -/
def Item (B : Amb) (F : Fam) (ifs : List Expr) (elt : Expr) (σ : L2.St) (H : Hp) (o : Option PyData) : Prop :=
  ∃ b : Bool, (∀ C, F C → ∀ H1, Gr B H H1 → ∀ Q : Bool → Hp → Prop, (∀ H2, Gr B H1 H2 → Q b H2) → tSs C ifs σ H1 Q) ∧ (b = true → ∃ d, o = some d ∧ ∀ C, F C → EV B C elt σ H d) ∧ (b = false → o = none)
theorem item_all {B : Amb} {F : Fam} {elt : Expr} {σ : L2.St} {H : Hp} {d : PyData} (h : ∀ C, F C → EV B C elt σ H d) : Item B F [] elt σ H (some d) :=
  ⟨true, fun C hC H1 g Q q pins s I => pts_nil.run pins s σ H1 Q I (q H1 g.self), fun _ => ⟨d, rfl, h⟩, fun z => by cases z⟩
theorem item_if {B : Amb} {F : Fam} {c elt : Expr} {σ : L2.St} {H : Hp} {d : PyData} {b : Bool} (hc : ∀ C, F C → ET B C c σ H b) (h : b = true → ∀ C, F C → EV B C elt σ H d) : Item B F [c] elt σ H (if b = true then some d else none) :=
  ⟨b, fun C hC H1 g Q q pins s I => (pts_one pt_S).run pins s σ H1 Q I (hc C hC H1 g Q q), fun z => ⟨d, by rw [if_pos z], h z⟩, fun z => by rw [z]; rfl⟩
/-- the names of a block, tested -/
def blkB (N : List Str) (sc scope : Scope) (own : List (Str × Nat)) : Bool :=
  decide (scope.kind = .function) && scope.names.all (fun y => decide (scope.names.lookup y.1 = some y.2)) && own.all (fun p => decide (N[p.2]? = some p.1)) && scope.names.all (fun y => !decide (y.2 = .free) || decide (sc.names.lookup y.1 = some NameKind.cell) || decide (sc.names.lookup y.1 = some NameKind.free)) &&
  scope.names.all (fun y => !(decide (y.2 = .local) || decide (y.2 = .cell)) || decide (y.1 ∈ own.map (·.1)) || !decide (y.1 ∈ N))
theorem blk_by {N : List Str} {sc scope : Scope} {own : List (Str × Nat)} (h : blkB N sc scope own = true) : BlkOk N sc scope own := by
  unfold blkB at h
  simp only [Bool.and_eq_true, Bool.not_eq_true', decide_eq_true_eq, List.all_eq_true, Bool.or_eq_true, decide_eq_false_iff_not, Bool.or_eq_false_iff] at h
  obtain ⟨⟨⟨⟨h1, h2⟩, h3⟩, h4⟩, h5⟩ := h
  refine ⟨h1, h2, h3, fun y hy e => (h4 y hy).elim (fun z => z.elim (fun z => absurd e z) .inl) .inr, fun y hy e => ?_⟩
  rcases h5 y hy with (⟨z1, z2⟩ | z) | z
  · exact (e.elim z1 z2).elim
  · exact .inl z
  · exact .inr z
/-- the contexts of a comprehension's block -/
def Blk (C : Cx) (scope : Scope) : Fam := fun C' => ∃ (s : Shared) (H : Hp) (c : Addr) (cl : List (Str × Addr)) (fp : List Addr), C' = C.blk s H scope (compEnvC scope cl c C.env) fp
theorem drop_cons_of {α : Type} {xs : List α} {i : Nat} {x : α} (h : xs[i]? = some x) : xs.drop i = x :: xs.drop (i + 1) := by
  obtain ⟨h1, h2⟩ := List.getElem?_eq_some_iff.mp h
  rw [List.drop_eq_getElem_cons h1, h2]
section
variable {B : Amb} {C : Cx} {tg iter elt : Expr} {ifs : List Expr} {σ : L2.St} {H : Hp} {pos : Pos} {scope : Scope} {own : List (Str × Nat)} {pat : Pat} {xs : List PyData} {outs : PyData → Option PyData}
/-- what a comprehension's reading asks -/
theorem lc_reads {F : Fam} {wi : TI} {vs : List Nat} (hwi : ∀ H1, Gr B H H1 → ∀ R : It → Hp → Prop, (∀ J H2, Gr B H1 H2 → Walks B J xs H2 → R J H2) → wi σ H1 R) (hlen : xs.length ≤ 1000000) (hg : EG B F tg pat) (hsh : ∀ d ∈ xs, Shape pat d)
    (hlf : ∀ d ∈ xs, ∀ d', outs d = some d' → LF d')
    (item : ∀ d ∈ xs, ∀ H3 σ2, Gr B H H3 → Put B.X H3 pat d (wipe σ vs) σ2 → wipe σ2 vs = wipe σ vs ∧ Item B F ifs elt σ2 H3 (outs d)) {H1 : Hp} (g : Gr B H H1) {Q : VK} (q : ∀ v H2, Gr B H1 H2 → Is B.X H2 v (.list (xs.filterMap outs)) → Q v H2) :
    tLc wi (FG F tg) (FT F ifs) (FE F elt) vs σ H1 Q := by
  obtain ⟨gg, hgg, kg⟩ := hg
  refine hwi H1 g _ fun J H2 g2 hw D hD => ?_
  -- behind i turns the new list holds what they gave
  refine ⟨fun i m H' => m = xs.length - i ∧ i ≤ xs.length ∧ ∃ vs', H' D = some (.lst vs') ∧ (∀ a o, H2 a = some o → (∀ ps, o ≠ .tbl ps) → H' a = some o) ∧ TK B H' ∧ (∀ a, H' a = none → H2 a = none) ∧ Iss B.X H' vs' ((xs.take i).filterMap outs), ⟨xs.length, by simp, Nat.zero_le _, [], upd_same, ?_⟩, ?_⟩
  · have g3 := Gr.new (o := .lst []) g2.tk hD
    exact ⟨g3.keep, g3.tk, g3.dom, .nil⟩
  rintro i m H' ⟨rfl, hi, vs', hDl, keep, tk, dom, iss⟩
  have gr2 : Gr B H2 H' := ⟨keep, tk, dom⟩
  have hDX : D ∉ B.X := g2.tk.notX hD
  cases hd : xs[i]? with
  | none =>
    have e : i = xs.length := by
      have := List.getElem?_eq_none_iff.mp hd
      omega
    refine .inl ⟨((hw H' i gr2.x).2 e), q _ H' (g2.trans gr2) ?_⟩
    rw [e, List.take_length] at iss
    exact .lst hDl hDX iss.1 iss.2
  | some d =>
    have hlt : i < xs.length := (List.getElem?_eq_some_iff.mp hd).1
    have hmem : d ∈ xs := List.mem_of_getElem? hd
    obtain ⟨hgo, hy⟩ := (hw H' i gr2.x).1 d hd
    have tk1 : xs.take (i + 1) = xs.take i ++ [d] := by rw [List.take_add_one, hd]; rfl
    refine .inr ⟨hgo, fun H'' => i + 1 ≤ xs.length ∧ ∃ vs', H'' D = some (.lst vs') ∧ (∀ a o, H2 a = some o → (∀ ps, o ≠ .tbl ps) → H'' a = some o) ∧ TK B H'' ∧ (∀ a, H'' a = none → H2 a = none) ∧ Iss B.X H'' vs' ((xs.take (i + 1)).filterMap outs), fun H'' h => ⟨xs.length - (i + 1), by omega, rfl, h⟩, fun x H3 yl => ?_⟩
    obtain ⟨g3, hx⟩ := hy x H3 yl
    have g03 : Gr B H H3 := g.trans (g2.trans (gr2.trans g3))
    intro C1 hC1 pins s u I r
    refine (hgg C1 hC1).run pins s (wipe σ vs) H3 x u _ I r (kg d x (wipe σ vs) H3 _ hx (hsh d hmem) fun σ2 hput => ?_)
    obtain ⟨hwipe, b, ht, h1, h0⟩ := item d hmem H3 σ2 g03 hput
    refine ⟨hwipe, fun C2 hC2 => ht C2 hC2 H3 g3.self _ fun H4 g4 => ?_⟩
    have D4 : H4 D = some (.lst vs') := g4.keep D _ (g3.keep D _ hDl (fun ps z => by cases z)) fun ps z => by cases z
    cases b with
    | false =>
      refine iteF ⟨hlt, vs', D4, ((gr2.trans g3).trans g4).keep, g4.tk, ((gr2.trans g3).trans g4).dom, ?_⟩
      rw [tk1, List.filterMap_append]
      show Iss _ _ _ (_ ++ [d].filterMap outs)
      rw [List.filterMap_cons, h0 rfl, List.filterMap_nil, List.append_nil]
      exact iss.mono (g3.trans g4)
    | true =>
      obtain ⟨d', ho, hev⟩ := h1 rfl
      refine iteT fun C3 hC3 => (hev C3 hC3).mono (g4) H4 g4.self _ fun y H5 g5 hy5 => ?_
      have D5 : H5 D = some (.lst vs') := g5.keep D _ D4 fun ps z => by cases z
      have gAll := ((gr2.trans g3).trans g4).trans g5
      have hl : vs'.length < sizeLine := by
        have h1 := iss.1
        have h2 := List.length_filterMap_le outs (xs.take i)
        rw [List.length_take] at h2
        have h3 : (1000000 : Nat) < sizeLine := by decide
        omega
      have tkD : TK B (upd H5 D (.lst (vs' ++ [y]))) := g5.tk.upd D5 (fun ps z => by cases z) (fun q z => by cases z)
      refine ⟨vs', D5, hl, hlt, vs' ++ [y], upd_same, fun a o ha hn => ?_, tkD, fun a z => ?_, ?_⟩
      · have hne : a ≠ D := fun z => by rw [z, hD] at ha; cases ha
        rw [upd_ne hne]
        exact gAll.keep a o ha hn
      · by_cases h : a = D
        · rw [h]; exact hD
        · rw [upd_ne h] at z; exact gAll.dom a z
      · rw [tk1, List.filterMap_append]
        show Iss _ _ _ (_ ++ [d].filterMap outs)
        rw [List.filterMap_cons, ho, List.filterMap_nil]
        have lfAll : ∀ dd ∈ (xs.take i).filterMap outs, LF dd := fun dd hdd => by
          obtain ⟨d0, h1, h2⟩ := List.mem_filterMap.mp hdd
          exact hlf d0 (List.mem_of_mem_take h1) dd h2
        have iss5 := iss.mono (g3.trans (g4.trans g5))
        refine Iss.snoc ⟨iss5.1, fun j v dd h1 h2 => (iss5.2 j v dd h1 h2 |> fun h => LF.is D5 h (lfAll dd (List.mem_of_getElem? h2)))⟩ (LF.is D5 hy5 (hlf d hmem d' ho))
/-- [elt for target in iter if ..] -/
theorem ev_lc (hi : EI B C tg iter σ H xs) (hlen : xs.length ≤ 1000000) (hc : C.calm = true) (hN : C.N.Nodup) (ok : BlkOk C.N C.env.scope scope own) (hg : EG B (Blk C scope) tg pat) (hsh : ∀ d ∈ xs, Shape pat d) (hlf : ∀ d ∈ xs, ∀ d', outs d = some d' → LF d')
    (item : ∀ d ∈ xs, ∀ H3 σ2, Gr B H H3 → Put B.X H3 pat d (wipe σ (own.map (·.2))) σ2 → wipe σ2 (own.map (·.2)) = wipe σ (own.map (·.2)) ∧ Item B (Blk C scope) ifs elt σ2 H3 (outs d)) (hs : ∀ x, foldedSetIterable iter C.env x = pure x := by intro _; rfl) :
    EV B C (.ListComp elt [⟨tg, iter, ifs, 0⟩] scope pos) σ H (.list (xs.filterMap outs)) := fun H1 g Q q => by
  obtain ⟨wi, pi, hwi⟩ := hi
  refine of_pe (pe_lc hc hN pi ok (fun s H c cl fp => pg_F (F := Blk C scope) ⟨s, H, c, cl, fp, rfl⟩) (fun s H c cl fp => pts_F (F := Blk C scope) ⟨s, H, c, cl, fp, rfl⟩) (fun s H c cl fp => pe_F (F := Blk C scope) ⟨s, H, c, cl, fp, rfl⟩) hs) ?_
  exact lc_reads hwi hlen hg hsh hlf item g q
end
end K22
end
section
set_option Elab.async false
set_option linter.all false
set_option maxRecDepth 100000
set_option maxHeartbeats 4000000
/-! K22EvG: any, all, sum, min of generator expressions, over the layer of data. -/
namespace K22
open PySem PySem.Spec PyProof.Rows L2 NdefX
/-- a scalar's value -/
def sV : PyData → V
  | .bool b => .bl b
  | .int i => .int i
  | _ => .non
def Sc (d : PyData) : Prop := (∃ b, d = .bool b) ∨ ∃ i, d = .int i
theorem Sc.val {X : List Addr} {H : Hp} {v : V} {d : PyData} (s : Sc d) (h : Is X H v d) : v = sV d := by
  rcases s with ⟨b, rfl⟩ | ⟨i, rfl⟩
  · exact h.bl_eq
  · exact h.int_eq
/-- the contexts of a generator -/
def GenF (C : Cx) (N : List Str) (scope : Scope) (k : Nat) : Fam := fun C' => ∃ (A : Around) (s : Shared) (H : Hp) (cc : Addr) (code : Value) (fp : List Addr) (pn : List (Addr × Obj)), Room k A ∧ C' = gcx C A N s H (genEnv scope (cloFrom C.env.cells scope.names []) cc code builtinsNs C.env) fp pn
def FI (F : Fam) (tg iter : Expr) : TI := fun σ H R => ∀ C, F C → ∀ (pins : List (Addr × Obj)) (s : Shared), Inv C pins σ H s →
  wpAny (model C.prog C.w) C.A (eval iter C.env) (fun v s1 => wpAny (model C.prog C.w) C.A (pyIter v) (PIE C pins σ tg R) C.xe s1) C.xe s
theorem pi_F {F : Fam} {tg iter : Expr} {C : Cx} (h : F C) : PI C tg iter (FI F tg iter) := ⟨fun pins s σ H R I q => q C h pins s I⟩
theorem gr_tabbed {B : Amb} {H H2 : Hp} {P : Addr} (tk : TK B H) (hP : P ∈ B.TG) (h : GxR.Tabbed P H H2) : Gr B H H2 := by
  obtain ⟨⟨ps, hp, _⟩, same⟩ := h.1, h.2
  obtain ⟨ps0, hp0, _⟩ := tk.tg P hP
  have ne : ∀ {a : Addr} {o : HO}, H a = some o → (∀ ps, o ≠ .tbl ps) → a ≠ P := fun {a o} e n z => by
    rw [z, hp0] at e
    cases e
    exact n _ rfl
  refine ⟨fun a o e n => by rw [same a (ne e n)]; exact e, ⟨fun P' hP' => ?_, fun q hq => ?_, fun a ha z => ?_, tk.dj⟩, fun a z => ?_⟩
  · by_cases e : P' = P
    · rw [e]; exact h.1
    · obtain ⟨ps', h1, h2⟩ := tk.tg P' hP'
      exact ⟨ps', by rw [same P' e]; exact h1, h2⟩
  · obtain ⟨ps', h1, h2, h3⟩ := tk.tl q hq
    refine ⟨ps', by rw [same q.1 (tk.dj P hP q hq)]; exact h1, h2, fun pos cv hc => ?_⟩
    obtain ⟨c, e1, e2⟩ := h3 pos cv hc
    refine ⟨c, e1, ?_⟩
    rw [same c (ne e2 fun ps z => by cases z)]
    exact e2
  · by_cases e : a = P
    · rw [e, hp] at z; cases z
    · rw [same a e] at z; exact tk.xs a ha z
  · by_cases e : a = P
    · rw [e, hp] at z; cases z
    · rw [same a e] at z; exact z
section
variable {B : Amb} {C : Cx} {tg iter elt : Expr} {ifs : List Expr} {σ : L2.St} {H : Hp} {pos gpos p : Pos} {scope : Scope} {pat : Pat} {xs : List PyData} {outs : PyData → Option PyData} {c P : Addr} {N fr : List Str} {js : List Nat} {k : Nat}
theorem evp_gen1 (tk : Taker) {PV : V → Prop} (hr : Room (k + 1) C.A) (hgl : Gl C tk.name) (hm : C.mg tk.name = none) (t : GTxt C c P scope N fr js) (hP : P ∈ B.TG) (hi : EI B C tg iter σ H xs) (hg : EG B (GenF C N scope k) tg pat)
    (hsh : ∀ d ∈ xs, Shape pat d) (hsc : ∀ d ∈ xs, ∀ d', outs d = some d' → Sc d') (Sg : L2.St → Prop) (h0 : Sg (startG N (js.map (slotAt σ))))
    (item : ∀ d ∈ xs, ∀ H3 σ1 σ2, Gr B H H3 → Sg σ1 → Put B.X H3 pat d σ1 σ2 → Sg σ2 ∧ Item B (GenF C N scope k) ifs elt σ2 H3 (outs d))
    (hK : ∀ (G : Hp → Prop) (Q : VK), (∀ v H3, PV v → G H3 → Q v H3) → tk.kont Q ((xs.filterMap outs).map sV) G)
    (hs : ∀ v, genFold iter C.env v = pure v := by intro _; rfl)
    (he : starEach [.GeneratorExp elt [⟨tg, iter, ifs, 0⟩] scope gpos] C.env = (false, eval (.GeneratorExp elt [⟨tg, iter, ifs, 0⟩] scope gpos) C.env) :: starEach [] C.env := by rfl) :
    EVP B C (.Call (.Name tk.name p) [.GeneratorExp elt [⟨tg, iter, ifs, 0⟩] scope gpos] [] pos) σ H (fun v _ => PV v) := fun H1 g Q q => by
  obtain ⟨wi, pi, hwi⟩ := hi
  obtain ⟨gg, hgg, kg⟩ := hg
  have hfam : GFam C N scope k fun X' => PG X' tg (FG (GenF C N scope k) tg) ∧ PTs X' ifs (FT (GenF C N scope k) ifs) ∧ PE X' elt (FE (GenF C N scope k) elt) := fun A s H' cc code fp pn hA => by
    have hF : GenF C N scope k (gcx C A N s H' (genEnv scope (cloFrom C.env.cells scope.names []) cc code builtinsNs C.env) fp pn) := ⟨A, s, H', cc, code, fp, pn, hA, rfl⟩
    exact ⟨pg_F hF, pts_F hF, pe_F hF⟩
  refine of_pe (pe_gen1 tk hr hgl hm t pi hfam hs he) ?_
  refine hwi H1 g _ fun J H2 g2 hw => ⟨g2.tk.tg P hP, fun H2' htab => ?_⟩
  have gt : Gr B H2 H2' := gr_tabbed g2.tk hP htab
  refine ⟨(xs.filterMap outs).map sV, fun H3 => Gr B H2' H3, fun i m zs σ' H' => m = xs.length - i ∧ i ≤ xs.length ∧ zs = ((xs.drop i).filterMap outs).map sV ∧ Gr B H2' H' ∧ Sg σ', gt.self, ⟨xs.length, by simp, Nat.zero_le _, rfl, gt.self, h0⟩, ?_, hK _ Q fun v H3 pv g3 => q v H3 (g2.trans (gt.trans g3)) pv⟩
  rintro i m zs σ' H' ⟨rfl, hi, rfl, g3, sg⟩
  have gw : Gr B H2 H' := gt.trans g3
  cases hd : xs[i]? with
  | none =>
    have e : i = xs.length := by
      have := List.getElem?_eq_none_iff.mp hd
      omega
    refine .inl ⟨(hw H' i gw.x).2 e, ?_, g3⟩
    rw [e, List.drop_length]
    rfl
  | some d =>
    have hlt : i < xs.length := (List.getElem?_eq_some_iff.mp hd).1
    have hmem : d ∈ xs := List.mem_of_getElem? hd
    obtain ⟨hgo, hy⟩ := (hw H' i gw.x).1 d hd
    refine .inr ⟨hgo, fun zs' σ'' H'' => i + 1 ≤ xs.length ∧ zs' = ((xs.drop (i + 1)).filterMap outs).map sV ∧ Gr B H2' H'' ∧ Sg σ'', fun zs' σ'' H'' h => ⟨xs.length - (i + 1), by omega, rfl, h⟩, fun x H4 yl => ?_⟩
    obtain ⟨g4, hx⟩ := hy x H4 yl
    have g04 : Gr B H H4 := g.trans (g2.trans (gw.trans g4))
    rw [drop_cons_of hd, List.filterMap_cons]
    intro C1 hC1 pins s u I r
    refine (hgg C1 hC1).run pins s σ' H4 x u _ I r (kg d x σ' H4 _ hx (hsh d hmem) fun σ2 hput => ?_)
    obtain ⟨sg2, b, ht, h1, h0'⟩ := item d hmem H4 σ' σ2 g04 sg hput
    intro C2 hC2
    refine ht C2 hC2 H4 g4.self _ fun H5 g5 => ?_
    cases b with
    | false =>
      rw [h0' rfl]
      exact iteF ⟨hlt, rfl, g3.trans (g4.trans g5), sg2⟩
    | true =>
      obtain ⟨d', ho, hev⟩ := h1 rfl
      rw [ho]
      refine iteT fun C3 hC3 => (hev C3 hC3).mono g5 H5 g5.self _ fun y H6 g6 hy6 => ?_
      refine ⟨((xs.drop (i + 1)).filterMap outs).map sV, ?_, g3.trans (g4.trans (g5.trans g6)), hlt, rfl, g3.trans (g4.trans (g5.trans g6)), sg2⟩
      rw [(hsc d hmem d' ho).val hy6]
      rfl
/-- .. with an inner clause -/
theorem evp_gen2 (tk : Taker) {PV : V → Prop} {tg1 iter1 : Expr} {ifs1 : List Expr} {pat1 : Pat} {inner : PyData → List PyData} {outs2 : PyData → PyData → Option PyData} (hr : Room (k + 1) C.A) (hgl : Gl C tk.name) (hm : C.mg tk.name = none) (t : GTxt C c P scope N fr js) (hP : P ∈ B.TG) (hi : EI B C tg iter σ H xs)
    (hg : EG B (GenF C N scope k) tg pat) (hg1 : EG B (GenF C N scope k) tg1 pat1)
    (hsh : ∀ d ∈ xs, Shape pat d) (hsh1 : ∀ d ∈ xs, ∀ d1 ∈ inner d, Shape pat1 d1) (hsc : ∀ d ∈ xs, ∀ d1 ∈ inner d, ∀ d', outs2 d d1 = some d' → Sc d') (Sg : L2.St → Prop) (h0 : Sg (startG N (js.map (slotAt σ))))
    (hin : ∀ d ∈ xs, ∀ H3 σ1 σ2, Gr B H H3 → Sg σ1 → Put B.X H3 pat d σ1 σ2 → Sg σ2 ∧ ∀ C', GenF C N scope k C' → EI B C' tg1 iter1 σ2 H3 (inner d))
    (item : ∀ d ∈ xs, ∀ d1 ∈ inner d, ∀ H3 σ1 σ2, Gr B H H3 → Sg σ1 → Put B.X H3 pat1 d1 σ1 σ2 → Sg σ2 ∧ Item B (GenF C N scope k) ifs1 elt σ2 H3 (outs2 d d1))
    (hK : ∀ (G : Hp → Prop) (Q : VK), (∀ v H3, PV v → G H3 → Q v H3) → tk.kont Q ((xs.flatMap fun d => (inner d).filterMap (outs2 d)).map sV) G)
    (hs1 : ∀ C', GenF C N scope k C' → ∀ x, foldedSetIterable iter1 C'.env x = pure x := by intro C' hC'; obtain ⟨A, s, H, cc, code, fp, pn, hA, rfl⟩ := hC'; intro _; rfl)
    (hs : ∀ v, genFold iter C.env v = pure v := by intro _; rfl)
    (he : starEach [.GeneratorExp elt [⟨tg, iter, [], 0⟩, ⟨tg1, iter1, ifs1, 0⟩] scope gpos] C.env = (false, eval (.GeneratorExp elt [⟨tg, iter, [], 0⟩, ⟨tg1, iter1, ifs1, 0⟩] scope gpos) C.env) :: starEach [] C.env := by rfl) :
    EVP B C (.Call (.Name tk.name p) [.GeneratorExp elt [⟨tg, iter, [], 0⟩, ⟨tg1, iter1, ifs1, 0⟩] scope gpos] [] pos) σ H (fun v _ => PV v) := fun H1 g Q q => by
  obtain ⟨wi, pi, hwi⟩ := hi
  obtain ⟨gg, hgg, kg⟩ := hg
  obtain ⟨gg1, hgg1, kg1⟩ := hg1
  have hfam : GFam C N scope k fun X' => PG X' tg (FG (GenF C N scope k) tg) ∧ PTs X' [] (FT (GenF C N scope k) []) ∧ PI X' tg1 iter1 (FI (GenF C N scope k) tg1 iter1) ∧ (∀ x, foldedSetIterable iter1 X'.env x = pure x) ∧ PG X' tg1 (FG (GenF C N scope k) tg1) ∧ PTs X' ifs1 (FT (GenF C N scope k) ifs1) ∧ PE X' elt (FE (GenF C N scope k) elt) := fun A s H' cc code fp pn hA => by
    have hF : GenF C N scope k (gcx C A N s H' (genEnv scope (cloFrom C.env.cells scope.names []) cc code builtinsNs C.env) fp pn) := ⟨A, s, H', cc, code, fp, pn, hA, rfl⟩
    exact ⟨pg_F hF, pts_F hF, pi_F hF, hs1 _ hF, pg_F hF, pts_F hF, pe_F hF⟩
  refine of_pe (pe_gen2 tk hr hgl hm t pi hfam hs he) ?_
  refine hwi H1 g _ fun J H2 g2 hw => ⟨g2.tk.tg P hP, fun H2' htab => ?_⟩
  have gt : Gr B H2 H2' := gr_tabbed g2.tk hP htab
  refine ⟨_, fun H3 => Gr B H2' H3, fun i m zs σ' H' => m = xs.length - i ∧ i ≤ xs.length ∧ zs = ((xs.drop i).flatMap fun d => (inner d).filterMap (outs2 d)).map sV ∧ Gr B H2' H' ∧ Sg σ', gt.self, ⟨xs.length, by simp, Nat.zero_le _, rfl, gt.self, h0⟩, ?_, hK _ Q fun v H3 pv g3 => q v H3 (g2.trans (gt.trans g3)) pv⟩
  rintro i m zs σ' H' ⟨rfl, hi, rfl, g3, sg⟩
  have gw : Gr B H2 H' := gt.trans g3
  cases hd : xs[i]? with
  | none =>
    have e : i = xs.length := by
      have := List.getElem?_eq_none_iff.mp hd
      omega
    refine .inl ⟨(hw H' i gw.x).2 e, ?_, g3⟩
    rw [e, List.drop_length]
    rfl
  | some d =>
    have hlt : i < xs.length := (List.getElem?_eq_some_iff.mp hd).1
    have hmem : d ∈ xs := List.mem_of_getElem? hd
    obtain ⟨hgo, hy⟩ := (hw H' i gw.x).1 d hd
    refine .inr ⟨hgo, fun zs' σ'' H'' => i + 1 ≤ xs.length ∧ zs' = ((xs.drop (i + 1)).flatMap fun d => (inner d).filterMap (outs2 d)).map sV ∧ Gr B H2' H'' ∧ Sg σ'', fun zs' σ'' H'' h => ⟨xs.length - (i + 1), by omega, rfl, h⟩, fun x H4 yl => ?_⟩
    obtain ⟨g4, hx⟩ := hy x H4 yl
    have g04 : Gr B H H4 := g.trans (g2.trans (gw.trans g4))
    rw [drop_cons_of hd, List.flatMap_cons]
    intro C1 hC1 pins s u I r
    refine (hgg C1 hC1).run pins s σ' H4 x u _ I r (kg d x σ' H4 _ hx (hsh d hmem) fun σ2 hput => ?_)
    obtain ⟨sg2, hei⟩ := hin d hmem H4 σ' σ2 g04 sg hput
    intro C2 hC2 pins2 s2 I2
    refine pts_nil.run pins2 s2 σ2 H4 _ I2 ?_
    simp only [if_true]
    intro C3 hC3 pins3 s3 I3
    obtain ⟨wi1, pi1, hwi1⟩ := hei C3 hC3
    refine pi1.run pins3 s3 σ2 H4 _ I3 (hwi1 H4 g4.self _ fun J1 H5 g5 hw1 => ?_)
    generalize hr : ((xs.drop (i + 1)).flatMap fun d => (inner d).filterMap (outs2 d)) = rest
    refine ⟨fun j m1 zs1 σ3 H6 => m1 = (inner d).length - j ∧ j ≤ (inner d).length ∧ zs1 = ((((inner d).drop j).filterMap (outs2 d)) ++ rest).map sV ∧ Gr B H5 H6 ∧ Sg σ3, ⟨_, rfl, Nat.zero_le _, rfl, g5.self, sg2⟩, ?_⟩
    rintro j m1 zs1 σ3 H6 ⟨rfl, hj, rfl, g6, sg3⟩
    have g36 : Gr B H2' H6 := g3.trans (g4.trans (g5.trans g6))
    cases hd1 : (inner d)[j]? with
    | none =>
      have e : j = (inner d).length := by
        have := List.getElem?_eq_none_iff.mp hd1
        omega
      refine .inl ⟨(hw1 H6 j g6.x).2 e, hlt, ?_, g36, sg3⟩
      rw [e, List.drop_length]
      rfl
    | some d1 =>
      have hlt1 : j < (inner d).length := (List.getElem?_eq_some_iff.mp hd1).1
      have hmem1 : d1 ∈ inner d := List.mem_of_getElem? hd1
      obtain ⟨hgo1, hy1⟩ := (hw1 H6 j g6.x).1 d1 hd1
      refine .inr ⟨hgo1, fun zs' σ'' H'' => j + 1 ≤ (inner d).length ∧ zs' = ((((inner d).drop (j + 1)).filterMap (outs2 d)) ++ rest).map sV ∧ Gr B H5 H'' ∧ Sg σ'', fun zs' σ'' H'' h => ⟨(inner d).length - (j + 1), by omega, rfl, h⟩, fun x1 H7 yl1 => ?_⟩
      obtain ⟨g7, hx1⟩ := hy1 x1 H7 yl1
      rw [drop_cons_of hd1, List.filterMap_cons]
      intro C4 hC4 pins4 s4 u4 I4 r4
      refine (hgg1 C4 hC4).run pins4 s4 σ3 H7 x1 u4 _ I4 r4 (kg1 d1 x1 σ3 H7 _ hx1 (hsh1 d hmem d1 hmem1) fun σ4 hput1 => ?_)
      obtain ⟨sg4, b, ht, h1, h0'⟩ := item d hmem d1 hmem1 H7 σ3 σ4 (g04.trans (g5.trans (g6.trans g7))) sg3 hput1
      intro C5 hC5
      refine ht C5 hC5 H7 g7.self _ fun H8 g8 => ?_
      cases b with
      | false =>
        rw [h0' rfl]
        exact iteF ⟨hlt1, rfl, g6.trans (g7.trans g8), sg4⟩
      | true =>
        obtain ⟨d', ho, hev⟩ := h1 rfl
        rw [ho]
        refine iteT fun C6 hC6 => (hev C6 hC6).mono g8 H8 g8.self _ fun y H9 g9 hy9 => ?_
        refine ⟨((((inner d).drop (j + 1)).filterMap (outs2 d)) ++ rest).map sV, ?_, g36.trans (g7.trans (g8.trans g9)), hlt1, rfl, g6.trans (g7.trans (g8.trans g9)), sg4⟩
        rw [(hsc d hmem d1 hmem1 d' ho).val hy9]
        rfl
end
/-! ### targets -/
theorem eg_gn {B : Amb} {C : Cx} {N : List Str} {scope : Scope} {k i : Nat} {x : Str} {px : Pos} (nd : N.Nodup) (hi : N[i]? = some x) (hx : scope.names.lookup x = some .local) : EG B (GenF C N scope k) (.Name x px) (.nm i) := eg_nm (by
  rintro C' ⟨A', s', H', cc, code, fp, pn, hA, rfl⟩
  exact pg_name nd hi (.inl hx) (.inr hx))
theorem eg_gt {B : Amb} {C : Cx} {N : List Str} {scope : Scope} {k kk : Nat} {t1 t2 : Expr} {tp : Pos} {p q : Pat} (h1 : EG B (GenF C N scope k) t1 p) (h2 : EG B (GenF C N scope k) t2 q) (hs : ∀ env : Env, (assignEach [t1, t2] env).length = 2 ∧ (assignEach [t1, t2] env).findIdx? (·.1) = none ∧ (assignEach (t1 :: [t2]) env).map (·.2) = assign t1 env :: (assignEach [t2] env).map (·.2) ∧ (assignEach (t2 :: []) env).map (·.2) = assign t2 env :: (assignEach [] env).map (·.2) := by intro env; exact ⟨rfl, rfl, rfl, rfl⟩) : EG B (GenF C N scope k) (.Tuple [t1, t2] kk tp) (.two p q) :=
  eg_two C.K h1 h2 (by rintro C' ⟨A', s', H', cc, code, fp, pn, hA, rfl⟩; rfl) (by rintro C' ⟨A', s', H', cc, code, fp, pn, hA, rfl⟩; rfl) fun C' _ => hs C'.env
theorem eg_bn {B : Amb} {C : Cx} {scope : Scope} {i : Nat} {x : Str} {px : Pos} (nd : C.N.Nodup) (hi : C.N[i]? = some x := by rfl) (hx : ∀ (s : Shared) (H : Hp) (c : Addr) (cl : List (Str × Addr)) (fp : List Addr), (C.blk s H scope (compEnvC scope cl c C.env) fp).env.scope.names.lookup x = some .local := by intros; rfl) : EG B (Blk C scope) (.Name x px) (.nm i) := eg_nm (by
  rintro C' ⟨s', H', c, cl, fp, rfl⟩
  exact pg_name nd hi (.inl (hx s' H' c cl fp)) (.inr (hx s' H' c cl fp)))
theorem eg_bt {B : Amb} {C : Cx} {scope : Scope} {kk : Nat} {t1 t2 : Expr} {tp : Pos} {p q : Pat} (hc : C.calm = true) (h1 : EG B (Blk C scope) t1 p) (h2 : EG B (Blk C scope) t2 q) (hs : ∀ env : Env, (assignEach [t1, t2] env).length = 2 ∧ (assignEach [t1, t2] env).findIdx? (·.1) = none ∧ (assignEach (t1 :: [t2]) env).map (·.2) = assign t1 env :: (assignEach [t2] env).map (·.2) ∧ (assignEach (t2 :: []) env).map (·.2) = assign t2 env :: (assignEach [] env).map (·.2) := by intro env; exact ⟨rfl, rfl, rfl, rfl⟩) : EG B (Blk C scope) (.Tuple [t1, t2] kk tp) (.two p q) :=
  eg_two C.K h1 h2 (by rintro C' ⟨s', H', c, cl, fp, rfl⟩; rfl) (by rintro C' ⟨s', H', c, cl, fp, rfl⟩; exact hc) fun C' _ => hs C'.env
theorem eg_cn {B : Amb} {C : Cx} {i : Nat} {x : Str} {px : Pos} (nd : C.N.Nodup) (hi : C.N[i]? = some x) (hx : Loc C.env.scope x) (hf : C.fn x = true ∨ C.env.scope.names.lookup x = some .local) : EG B (fun C' => C' = C) (.Name x px) (.nm i) := eg_nm fun C' e => by
  subst e
  exact pg_name nd hi hx hf
theorem eg_ct {B : Amb} {C : Cx} {kk : Nat} {t1 t2 : Expr} {tp : Pos} {p q : Pat} (hc : C.calm = true) (h1 : EG B (fun C' => C' = C) t1 p) (h2 : EG B (fun C' => C' = C) t2 q) (hs : ∀ env : Env, (assignEach [t1, t2] env).length = 2 ∧ (assignEach [t1, t2] env).findIdx? (·.1) = none ∧ (assignEach (t1 :: [t2]) env).map (·.2) = assign t1 env :: (assignEach [t2] env).map (·.2) ∧ (assignEach (t2 :: []) env).map (·.2) = assign t2 env :: (assignEach [] env).map (·.2) := by intro env; exact ⟨rfl, rfl, rfl, rfl⟩) : EG B (fun C' => C' = C) (.Tuple [t1, t2] kk tp) (.two p q) :=
  eg_two C.K h1 h2 (fun C' e => by subst e; rfl) (fun C' e => by subst e; exact hc) fun C' _ => hs C'.env
/-! what the four make of it -/
theorem k_any {bs : List Bool} {ys : List PyData} (e : ys = bs.map PyData.bool) : ∀ (G : Hp → Prop) (Q : VK), (∀ v H3, v = .bl (bs.any id) → G H3 → Q v H3) → Taker.any.kont Q (ys.map sV) G := fun G Q q => ⟨bs, by rw [e, List.map_map]; rfl, fun H3 g => q _ H3 rfl g⟩
theorem k_all {bs : List Bool} {ys : List PyData} (e : ys = bs.map PyData.bool) : ∀ (G : Hp → Prop) (Q : VK), (∀ v H3, v = .bl (bs.all id) → G H3 → Q v H3) → Taker.all.kont Q (ys.map sV) G := fun G Q q => ⟨bs, by rw [e, List.map_map]; rfl, fun H3 g => q _ H3 rfl g⟩
theorem k_sum {ks : List Int} {ys : List PyData} (e : ys = ks.map PyData.int) (h1 : ∀ k ∈ ks, InLong k) (h2 : ∀ j, InLong (ks.take j).sum) : ∀ (G : Hp → Prop) (Q : VK), (∀ v H3, v = .int ks.sum → G H3 → Q v H3) → Taker.sum.kont Q (ys.map sV) G := fun G Q q => ⟨ks, by rw [e, List.map_map]; rfl, h1, h2, fun H3 g => q _ H3 rfl g⟩
theorem k_min {ks : List Int} {ys : List PyData} (e : ys = ks.map PyData.int) (h1 : ks ≠ []) : ∀ (G : Hp → Prop) (Q : VK), (∀ v H3, (∃ m, v = .int m ∧ IsMin ks m) → G H3 → Q v H3) → Taker.min.kont Q (ys.map sV) G := fun G Q q => ⟨ks, by rw [e, List.map_map]; rfl, h1, fun H3 m hm g => q _ H3 ⟨m, rfl, hm⟩ g⟩
theorem EVP.int {B : Amb} {C : Cx} {e : Expr} {σ : L2.St} {H : Hp} {n : Int} (h : EVP B C e σ H fun v _ => v = .int n) : EV B C e σ H (.int n) := fun H1 g Q q => h H1 g Q fun v H2 g2 hv => q v H2 g2 (by rw [hv]; exact .int n)
theorem EVP.non {B : Amb} {C : Cx} {e : Expr} {σ : L2.St} {H : Hp} (h : EVP B C e σ H fun v _ => v = .non) : EV B C e σ H .none := fun H1 g Q q => h H1 g Q fun v H2 g2 hv => q v H2 g2 (by rw [hv]; exact .non)
theorem EVP.bool {B : Amb} {C : Cx} {e : Expr} {σ : L2.St} {H : Hp} {b : Bool} (h : EVP B C e σ H fun v _ => v = .bl b) : EV B C e σ H (.bool b) := fun H1 g Q q => h H1 g Q fun v H2 g2 hv => q v H2 g2 (by rw [hv]; exact .bl b)
/-- sums of ints that are not below nought stay in a long where the whole does -/
theorem take_sum_le : ∀ (ks : List Int), (∀ k ∈ ks, 0 ≤ k) → ∀ j, 0 ≤ (ks.take j).sum ∧ (ks.take j).sum ≤ ks.sum
  | [], _, j => by simp
  | k :: ks, h, 0 => by
    have := take_sum_le ks (fun k hk => h k (List.mem_cons_of_mem _ hk)) ks.length
    rw [List.take_length] at this
    have hk := h k (List.mem_cons_self)
    simp only [List.take_zero, List.sum_nil, List.sum_cons]
    omega
  | k :: ks, h, j + 1 => by
    have := take_sum_le ks (fun k hk => h k (List.mem_cons_of_mem _ hk)) j
    have hk := h k (List.mem_cons_self)
    simp only [List.take_succ_cons, List.sum_cons]
    omega
end K22
end
section
set_option Elab.async false
set_option linter.all false
set_option maxRecDepth 100000
set_option maxHeartbeats 4000000
/-! K22S: statements, exact values, calls, dicts with pairs as keys. -/
namespace K22
open PySem PySem.Spec PyProof.Rows L2 NdefX
/-! ### the heap has grown but for the places of S -/
structure Gw (B : Amb) (S : List Addr) (H H' : Hp) : Prop where
  keep : ∀ a o, H a = some o → (∀ ps, o ≠ .tbl ps) → a ∉ S → H' a = some o
  tk : TK B H'
  dom : ∀ a, H' a = none → H a = none
section
variable {B : Amb} {S S' : List Addr} {H H1 H2 H' : Hp}
theorem Gr.w (g : Gr B H H') : Gw B S H H' := ⟨fun a o h n _ => g.keep a o h n, g.tk, g.dom⟩
theorem Gw.x (g : Gw B S H H') (h : ∀ a ∈ S, a ∈ B.X) : Gx B H H' := ⟨fun a o e n ha => g.keep a o e n fun z => ha (h a z), g.tk, g.dom⟩
theorem Gw.trans (a : Gw B S H H1) (b : Gw B S H1 H2) : Gw B S H H2 := ⟨fun c o h n hc => b.keep c o (a.keep c o h n hc) n hc, b.tk, fun c h => a.dom c (b.dom c h)⟩
theorem Gw.more (g : Gw B S H H') (h : ∀ a ∈ S, a ∈ S') : Gw B S' H H' := ⟨fun a o e n ha => g.keep a o e n fun z => ha (h a z), g.tk, g.dom⟩
theorem Gw.at (g : Gw B S H H') {a : Addr} {o : HO} (h : H a = some o) (n : ∀ ps, o ≠ .tbl ps) (ha : a ∉ S) : H' a = some o := g.keep a o h n ha
theorem Gw.upd {p : Addr} {o u : HO} (t : TK B H) (hp : H p = some u) (hu : ∀ ps, u ≠ .tbl ps) (hc : ∀ q, u ≠ LamX.CodeO p q) : Gw B [p] H (L2.upd H p o) :=
  ⟨fun a w h _ ha => by rw [upd_ne (fun z => ha (by rw [z]; exact List.mem_singleton.mpr rfl))]; exact h, t.upd hp hu hc, fun c z => by
    by_cases h : c = p
    · rw [h, upd_same] at z; cases z
    · rw [upd_ne h] at z; exact z⟩
theorem TK.ext (tk : TK B H) (e : ∀ b o, H b = some o → H' b = some o) : TK B H' := by
  refine ⟨fun P hP => ?_, tk.tl.ext e, fun a ha z => ?_, tk.dj⟩
  · obtain ⟨ps, h, r⟩ := tk.tg P hP
    exact ⟨ps, e _ _ h, r⟩
  · cases q : H a with
    | none => exact tk.xs a ha q
    | some u => rw [e a u q] at z; cases z
theorem Gr.ext (tk : TK B H) (e : ∀ b o, H b = some o → H' b = some o) : Gr B H H' := by
  refine ⟨fun b o h _ => e b o h, tk.ext e, fun c z => ?_⟩
  cases q : H c with
  | none => rfl
  | some u => rw [e c u q] at z; cases z
/-- more places to avoid -/
def Amb.plus (B : Amb) (l : List Addr) : Amb := ⟨B.K, l ++ B.X, B.TG, B.TL⟩
theorem TK.plus {l : List Addr} (t : TK B H) (h : ∀ a ∈ l, H a ≠ none) : TK (B.plus l) H := ⟨t.tg, t.tl, fun a ha => (List.mem_append.mp ha).elim (h a) (t.xs a), t.dj⟩
theorem TK.minus {l : List Addr} (t : TK (B.plus l) H) : TK B H := ⟨t.tg, t.tl, fun a ha => t.xs a (List.mem_append_right _ ha), t.dj⟩
theorem Gr.minus {l : List Addr} (g : Gr (B.plus l) H H') : Gr B H H' := ⟨g.keep, g.tk.minus, g.dom⟩
theorem Gr.plus {l : List Addr} (g : Gr B H H') (h : ∀ a ∈ l, H a ≠ none) : Gr (B.plus l) H H' := ⟨g.keep, g.tk.plus fun a ha z => h a ha (g.dom a z), g.dom⟩
theorem Gw.minus {l : List Addr} (g : Gw (B.plus l) S H H') : Gw B S H H' := ⟨g.keep, g.tk.minus, g.dom⟩
/-- what was not there may have changed -/
theorem Gw.gr (g : Gw B S H1 H2) (a : Gr B H H1) (h : ∀ c ∈ S, H c = none) : Gr B H H2 := ⟨fun c o e n => g.keep c o (a.keep c o e n) n (fun z => by rw [h c z] at e; cases e), g.tk, fun c z => a.dom c (g.dom c z)⟩
theorem Is.plus {l : List Addr} {v : V} {d : PyData} (h : Is B.X H v d) (hl : ∀ a ∈ l, H a = none) : Is (B.plus l).X H v d := h.avoid fun a ha => (List.mem_append.mp ha).elim (fun z => .inr (hl a z)) .inl
theorem Is.minus {l : List Addr} {v : V} {d : PyData} (h : Is (B.plus l).X H v d) : Is B.X H v d := h.avoid fun a ha => .inl (List.mem_append_right _ ha)
theorem Gw.is {v : V} {d : PyData} (g : Gw B S H H') (hS : ∀ a ∈ S, a ∈ B.X) (h : Is B.X H v d) : Is B.X H' v d := h.monoX (g.x hS)
end
/-! ### statements that say what runs -/
def sS (C : Cx) (st : Stmt) : TS := fun D σ H => ∀ (pins : List (Addr × Obj)) (s : Shared), Inv C pins σ H s → wpAny (model C.prog C.w) C.A (exec st C.env) (SP C pins D) C.xe s
def sSs (C : Cx) (sts : List Stmt) : TS := fun D σ H => ∀ (pins : List (Addr × Obj)) (s : Shared), Inv C pins σ H s → wpAny (model C.prog C.w) C.A (execs sts C.env) (SP C pins D) C.xe s
theorem ps_S {C : Cx} {st : Stmt} : PS C st (sS C st) := ⟨fun pins s _ _ _ I h => h pins s I⟩
theorem pss_S {C : Cx} {sts : List Stmt} : PSs C sts (sSs C sts) := ⟨fun pins s _ _ _ I h => h pins s I⟩
theorem of_ps {C : Cx} {st : Stmt} {t : TS} {D : Ends} {σ : L2.St} {H : Hp} (h : PS C st t) (q : t D σ H) : sS C st D σ H := fun pins s I => h.run pins s σ H D I q
theorem of_pss {C : Cx} {sts : List Stmt} {t : TS} {D : Ends} {σ : L2.St} {H : Hp} (h : PSs C sts t) (q : t D σ H) : sSs C sts D σ H := fun pins s I => h.run pins s σ H D I q
section
variable {B : Amb} {C : Cx} {e a b : Expr} {st : Stmt} {rest : List Stmt} {D : Ends} {σ : L2.St} {H : Hp} {pos : Pos}
theorem ss_nil (q : D.nx σ H) : sSs C [] D σ H := of_pss pss_nil q
theorem ss_cons (q : sS C st { D with nx := fun σ' H' => sSs C rest D σ' H' } σ H) : sSs C (st :: rest) D σ H := of_pss (pss_cons ps_S pss_S) q
theorem EVP.go {P : V → Hp → Prop} {Q : VK} (tk : TK B H) (h : EVP B C e σ H P) (q : ∀ v H2, Gr B H H2 → P v H2 → Q v H2) : tS C e σ H Q := h H (.refl tk) Q q
theorem EV.go {d : PyData} {Q : VK} (tk : TK B H) (h : EV B C e σ H d) (q : ∀ v H2, Gr B H H2 → Is B.X H2 v d → Q v H2) : tS C e σ H Q := h H (.refl tk) Q q
theorem ET.go {b : Bool} {Q : Bool → Hp → Prop} (tk : TK B H) (h : ET B C e σ H b) (q : ∀ H2, Gr B H H2 → Q b H2) : tST C e σ H Q := h H (.refl tk) Q q
theorem EA.go {es : List Expr} {ds : List PyData} (tk : TK B H) (h : EA B C es σ H ds) : ∃ t : TA, PA C es t ∧ ∀ Q : List V → Hp → Prop, (∀ vs H2, Gr B H H2 → Iss B.X H2 vs ds → Q vs H2) → t σ H Q := by
  obtain ⟨t, p, q⟩ := h
  exact ⟨t, p, q H (.refl tk)⟩
/-- name = e -/
theorem s_set (i : Nat) {x : Str} {px : Pos} (hN : C.N.Nodup) (h : tS C e σ H fun v H' => D.nx (σ.set i (some v)) H') (hi : C.N[i]? = some x := by rfl) (hx : Loc C.env.scope x := by first | exact Or.inl rfl | exact Or.inr rfl) (hs : swapsWith e (some (.Name x px)) pos.line C.env = pure false := by rfl) (hf : C.fn x = true ∨ C.env.scope.names.lookup x = some .local := by first | exact .inl rfl | exact .inr rfl) : sS C (.Assign [.Name x px] e pos) D σ H :=
  of_ps (ps_set hN hi hx pe_S hs hf) h
/-- a target = e -/
theorem s_asg {tg : Expr} (h : tS C e σ H fun v H' => tSG C tg v σ H' fun σ' H'' => D.nx σ' H'') (hs : swapsWithSole [tg] e pos.line C.env = pure false := by rfl) (hw : swappedStores [tg] e C.env = pure none := by rfl) (h1 : (assignEach [tg] C.env).map (·.2) = [assign tg C.env] := by rfl) : sS C (.Assign [tg] e pos) D σ H :=
  of_ps (ps_asg pe_S (g := tSG C tg) ⟨fun pins s σ H v u Q I r q => q pins s u I r⟩ hs hw h1) h
theorem s_expr (h : tS C e σ H fun _ H' => D.nx σ H') (hs : swapsWith e none pos.line C.env = pure false := by rfl) : sS C (.Expr e pos) D σ H := of_ps (ps_expr pe_S hs) h
theorem s_ret (h : tS C e σ H D.rt) : sS C (.Return (some e) pos) D σ H := of_ps (ps_ret pe_S) h
theorem s_if {x y : List Stmt} (h : tST C e σ H fun b H' => (b = true → sSs C x D σ H') ∧ (b = false → sSs C y D σ H')) : sS C (.If e x y pos) D σ H := of_ps (ps_if pt_S pss_S pss_S) (by
  refine fun pins s I => wpAny_mono (h pins s I) (fun b s1 ⟨H1, I1, q1, q2⟩ => ⟨H1, I1, ?_⟩) fun _ _ z => z
  cases b with
  | true => exact iteT (q1 rfl)
  | false => exact iteF (q2 rfl))
theorem ss_nx {sts : List Stmt} {M : L2.St → Hp → Prop} (h : sSs C sts { D with nx := M } σ H) (k : ∀ σ' H', M σ' H' → D.nx σ' H') : sSs C sts D σ H := fun pins s I => wpAny_mono (h pins s I) (fun f s1 q => by
  cases f with
  | next =>
    obtain ⟨σ', H', I', q⟩ := q
    exact ⟨σ', H', I', k σ' H' q⟩
  | brk => exact q
  | cont => exact q
  | ret v => exact q) fun _ _ z => z
/-- if, both ways to M, then the rest -/
theorem ss_if {x y rest : List Stmt} (M : L2.St → Hp → Prop) (h : tST C e σ H fun b H' => (b = true → sSs C x { D with nx := M } σ H') ∧ (b = false → sSs C y { D with nx := M } σ H')) (k : ∀ σ' H', M σ' H' → sSs C rest D σ' H') : sSs C (.If e x y pos :: rest) D σ H :=
  ss_cons (s_if fun pins s I => wpAny_mono (h pins s I) (fun b s1 ⟨H1, I1, q1, q2⟩ => ⟨H1, I1, fun z => ss_nx (D := { D with nx := fun σ' H' => sSs C rest D σ' H' }) (q1 z) k, fun z => ss_nx (D := { D with nx := fun σ' H' => sSs C rest D σ' H' }) (q2 z) k⟩) fun _ _ z => z)
/-- name op= e, ints -/
theorem s_aug (i : Nat) {x : Str} {px : Pos} {op : Operator} {ti : TIp} {v : V} (hN : C.N.Nodup) (ho : PIp C op ti) (hv : σ[i]? = some (some v)) (h : tS C e σ H fun y H1 => ti v y H1 fun z H2 => D.nx (σ.set i (some z)) H2) (hi : C.N[i]? = some x := by rfl) (hx : Loc C.env.scope x := by first | exact Or.inl rfl | exact Or.inr rfl) (hf : C.fn x = true ∨ C.env.scope.names.lookup x = some .local := by first | exact .inl rfl | exact .inr rfl) : sS C (.AugAssign (.Name x px) op e pos) D σ H :=
  of_ps (ps_aug hN hi hx pe_S ho hf) ⟨v, hv, h⟩
theorem s_never (h : False) : sS C st D σ H := h.elim
/-- while: an invariant with a measure -/
theorem s_while {body : List Stmt} (W : Nat → L2.St → Hp → Prop) (hp : PassesOwn (model C.prog C.w) C.A C.env C.xe) (m : Nat) (w0 : W m σ H)
    (hW : ∀ m σ H, W m σ H → tST C e σ H fun b H1 => (b = true → ∀ N : L2.St → Hp → Prop, (∀ m' σ' H', m' < m → W m' σ' H' → N σ' H') → sSs C body { D with nx := N, ct := N, bk := D.nx } σ H1) ∧ (b = false → D.nx σ H1)) : sS C (.While e body [] pos) D σ H := of_ps (ps_while hp pt_S pss_S) (by
  refine ⟨W, ⟨m, w0⟩, fun m σ H w pins s I => wpAny_mono (hW m σ H w pins s I) (fun b s1 ⟨H1, I1, q1, q2⟩ => ⟨H1, I1, ?_⟩) fun _ _ z => z⟩
  cases b with
  | true => exact iteT ⟨fun σ' H' => ∃ m', m' < m ∧ W m' σ' H', fun σ' H' z => z, q1 rfl _ fun m' σ' H' l w' => ⟨m', l, w'⟩⟩
  | false => exact iteF (q2 rfl))
/-! ### for -/
/-- what a loop over xs asks, from the heap H2 on -/
def Loop (B : Amb) (C : Cx) (tg : Expr) (body : List Stmt) (D : Ends) (xs : List PyData) (σ : L2.St) (H2 : Hp) : Prop :=
  ∃ (pat : Pat) (W : Nat → L2.St → Hp → Prop), EG B (fun C' => C' = C) tg pat ∧ (∀ d ∈ xs, Shape pat d) ∧ W 0 σ H2 ∧ (∀ i σ' H', i ≤ xs.length → W i σ' H' → Gx B H2 H') ∧
    (∀ i d σ' H' H3 σ2, xs[i]? = some d → W i σ' H' → Gr B H' H3 → Put B.X H3 pat d σ' σ2 → sSs C body { D with nx := W (i + 1), ct := W (i + 1), bk := D.nx } σ2 H3) ∧
    ∀ σ' H', W xs.length σ' H' → D.nx σ' H'
theorem loop_run {tg : Expr} {body : List Stmt} {xs : List PyData} {J : It} (hw : Walks B J xs H) (h : Loop B C tg body D xs σ H) :
    ∃ W : Nat → Nat → L2.St → Hp → Prop, (∃ m, W 0 m σ H) ∧ ∀ i m σ H, W i m σ H →
      (J.stop i H ∧ D.nx σ H) ∨ (J.go i H ∧ ∃ N : L2.St → Hp → Prop, (∀ σ' H', N σ' H' → ∃ m', m' < m ∧ W (i + 1) m' σ' H') ∧ ∀ x H', J.yld i H x H' → tSG C tg x σ H' fun σ2 H2 => sSs C body { D with nx := N, ct := N, bk := D.nx } σ2 H2) := by
  obtain ⟨pat, W, ⟨gg, hgg, kg⟩, hsh, h0, hx, step, fin⟩ := h
  refine ⟨fun i m σ' H' => m = xs.length - i ∧ i ≤ xs.length ∧ W i σ' H', ⟨_, rfl, Nat.zero_le _, h0⟩, ?_⟩
  rintro i m σ' H' ⟨rfl, hi, w⟩
  have gw := hx i σ' H' hi w
  cases hd : xs[i]? with
  | none =>
    have e : i = xs.length := by
      have := List.getElem?_eq_none_iff.mp hd
      omega
    subst e
    exact .inl ⟨(hw H' _ gw).2 rfl, fin σ' H' w⟩
  | some d =>
    have hlt : i < xs.length := (List.getElem?_eq_some_iff.mp hd).1
    obtain ⟨hgo, hy⟩ := (hw H' i gw).1 d hd
    refine .inr ⟨hgo, W (i + 1), fun σ'' H'' w' => ⟨xs.length - (i + 1), by omega, rfl, hlt, w'⟩, fun x H3 yl => ?_⟩
    obtain ⟨g3, hx3⟩ := hy x H3 yl
    intro pins s u I r
    exact (hgg C rfl).run pins s σ' H3 x u _ I r (kg d x σ' H3 _ hx3 (hsh d (List.mem_of_getElem? hd)) fun σ2 hput => step i d σ' H' H3 σ2 hd w g3 hput)
theorem s_forI {tg iter : Expr} {body : List Stmt} {wi : TI} (hp : PassesOwn (model C.prog C.w) C.A C.env C.xe) (hc : C.calm = true) (pi : PI C tg iter wi) (h : wi σ H fun J H2 => ∃ (B : Amb) (xs : List PyData), Walks B J xs H2 ∧ Loop B C tg body D xs σ H2)
    (hmono : ∀ R R' : It → Hp → Prop, (∀ J H, R J H → R' J H) → wi σ H R → wi σ H R') (hs : ∀ x, foldedSetIterable iter C.env x = pure x := by intro _; rfl) : sS C (.For tg iter body [] pos) D σ H :=
  of_ps (ps_for hp hc pi (g := tSG C tg) ⟨fun pins s σ H v u Q I r q => q pins s u I r⟩ pss_S hs) (hmono _ _ (fun J H2 ⟨B, xs, hw, hl⟩ => loop_run hw hl) h)
theorem s_for {tg iter : Expr} {body : List Stmt} {xs : List PyData} (tk : TK B H) (hp : PassesOwn (model C.prog C.w) C.A C.env C.xe) (hc : C.calm = true) (h : EI B C tg iter σ H xs) (q : ∀ H2, Gr B H H2 → Loop B C tg body D xs σ H2)
    (hs : ∀ x, foldedSetIterable iter C.env x = pure x := by intro _; rfl) : sS C (.For tg iter body [] pos) D σ H := by
  obtain ⟨wi, pi, hwi⟩ := h
  exact of_ps (ps_for hp hc pi (g := tSG C tg) ⟨fun pins s σ H v u Q I r q => q pins s u I r⟩ pss_S hs) (hwi H (.refl tk) _ fun J H2 g2 hw => loop_run hw (q H2 g2))
/-- over a list that an expression gives while other things change -/
theorem s_forL {tg iter : Expr} {body : List Stmt} (hp : PassesOwn (model C.prog C.w) C.A C.env C.xe) (hc : C.calm = true) (h : tS C iter σ H fun v H2 => ∃ (B : Amb) (xs : List PyData), TK B H2 ∧ Is B.X H2 v (.list xs) ∧ Loop B C tg body D xs σ H2)
    (hs : ∀ x, foldedSetIterable iter C.env x = pure x := by intro _; rfl) : sS C (.For tg iter body [] pos) D σ H :=
  of_ps (ps_for hp hc (pi_list pe_S) (g := tSG C tg) ⟨fun pins s σ H v u Q I r q => q pins s u I r⟩ pss_S hs) (by
    refine fun pins s I => wpAny_mono (h pins s I) (fun u s1 ⟨v, H1, I1, r1, B, xs, tk, hv, hl⟩ => ⟨v, H1, I1, r1, ?_⟩) fun _ _ z => z
    obtain ⟨p, vs, rfl, ep, hx, hi⟩ := hv.list_at
    exact ⟨p, rfl, ⟨vs, .inl (.inl ep)⟩, loop_run (walks_list ep hx hi) hl⟩)
/-! ### exact values -/
def EX (B : Amb) (C : Cx) (e : Expr) (σ : L2.St) (H : Hp) (w : V) : Prop := EVP B C e σ H fun v _ => v = w
theorem ex_var (k : Nat) {x : Str} {v : V} (hN : C.N[k]? = some x := by rfl) (hv : Vis C.env.scope x := by first | exact Or.inl rfl | exact Or.inr (Or.inl rfl) | exact Or.inr (Or.inr rfl)) (hs : σ[k]? = some (some v) := by rfl)
    (h1 : (x == ("__debug__" : Str)) = false := by decide) (h2 : (x == ("__classdict__" : Str)) = false := by decide) : EX B C (.Name x pos) σ H v := fun H1 g Q q =>
  of_pe (pe_var hN hv h1 h2) ⟨v, hs, q v H1 g.self rfl⟩
theorem ex_of {w : V} {d : PyData} (hd : ∀ X H v, Is X H v d → v = w) (h : EV B C e σ H d) : EX B C e σ H w := fun H1 g Q q => h H1 g Q fun v H2 g2 hv => q v H2 g2 (hd _ _ _ hv)
theorem ex_int {n : Int} (h : EV B C e σ H (.int n)) : EX B C e σ H (.int n) := ex_of (fun _ _ _ h => h.int_eq) h
theorem EX.int {n : Int} (h : EX B C e σ H (.int n)) : EV B C e σ H (.int n) := EVP.int h
theorem EX.to {w w' : V} (h : EX B C e σ H w) (q : w = w') : EX B C e σ H w' := q ▸ h
theorem EX.mono {H' : Hp} {w : V} (g : Gr B H H') (h : EX B C e σ H w) : EX B C e σ H' w := fun H1 g1 Q q => h H1 (g.trans g1) Q q
/-- o.f -/
theorem ex_fld {f : Str} {p Cc dx : Addr} {fs : List (Str × V)} {w : V} (h : EX B C e σ H (.ref p)) (ho : H p = some (.ins Cc dx fs)) (hc : Cls C.K Cc) (hn : NoAttr C.K Cc f) (hl : fs.lookup f = some w) (hb : attributeBase e f C.env (eval e C.env) = eval e C.env := by rfl) : EX B C (.Attribute e f pos) σ H w := fun H1 g Q q =>
  of_pe (pe_fld pe_S hb) (h H1 g _ fun v H2 g2 hv => by
    subst hv
    exact ⟨p, Cc, dx, fs, w, rfl, (g.trans g2).keep _ _ ho (fun ps z => by cases z), hc, hn, hl, q w H2 g2 rfl⟩)
/-- a pair as a key -/
def IsKey (H : Hp) (v : V) (x y : Int) : Prop := ∃ b, v = .ref b ∧ H b = some (.tup [.int x, .int y])
theorem IsKey.mono {H H' : Hp} {v : V} {x y : Int} (g : Gr B H H') (h : IsKey H v x y) : IsKey H' v x y := by
  obtain ⟨b, rfl, e⟩ := h
  exact ⟨b, rfl, g.keep b _ e fun ps z => by cases z⟩
theorem ek {x y : Int} {k : Nat} (ha : EV B C a σ H (.int x)) (hb : EV B C b σ H (.int y)) (h1 : starEach [a, b] C.env = (false, eval a C.env) :: starEach [b] C.env := by rfl) (h2 : starEach [b] C.env = (false, eval b C.env) :: starEach [] C.env := by rfl) : EVP B C (.Tuple [a, b] k pos) σ H fun v H2 => IsKey H2 v x y := fun H1 g Q q =>
  of_pe (pe_tup (pa_cons pe_S (pa_cons pe_S pa_nil h2) h1)) (ha H1 g _ fun v H2 g2 hv => hb H2 (g.trans g2) _ fun u H3 g3 hu => by
    rw [hv.int_eq, hu.int_eq]
    exact ⟨(by show 2 ≤ sizeLine; decide), fun p hp => q _ _ (g2.trans (g3.trans (.new g3.tk hp))) ⟨p, rfl, upd_same⟩⟩)
abbrev pk (x y : Int) : List Key := [Sum.inl x, Sum.inl y]
theorem dget_of {r : Addr} {kvs : List (List Key × V)} {v : V} {x y : Int} (hr : H r = some (.dT kvs)) (hv : IsKey H v x y) : DGet H r v (valV kvs (pk x y)) := by
  obtain ⟨b, rfl, e⟩ := hv
  exact .t hr e
/-- d[key], there -/
theorem ex_dget {r : Addr} {kvs : List (List Key × V)} {x y : Int} {w : V} (hu : C.A.units + 1 < cLine) (ha : EX B C a σ H (.ref r)) (hr : H r = some (.dT kvs)) (hb : EVP B C b σ H fun v H2 => IsKey H2 v x y) (hv : valV kvs (pk x y) = some w) (hs : NoSl b := by intro _ _; rfl) : EX B C (.Subscript a b pos) σ H w := fun H1 g Q q =>
  of_pe (pe_dget hu pe_S pe_S hs) (ha H1 g _ fun v H2 g2 e => by
    subst e
    exact hb H2 (g.trans g2) _ fun u H3 g3 hk => ⟨r, w, rfl, by
      rw [← hv]
      exact dget_of ((g.trans (g2.trans g3)).keep _ _ hr fun ps z => by cases z) hk, q w H3 (g2.trans g3) rfl⟩)
/-- key in d -/
theorem ev_din {r : Addr} {kvs : List (List Key × V)} {x y : Int} (hu : C.A.units + 1 < cLine) (ha : EX B C a σ H (.ref r)) (hr : H r = some (.dT kvs)) (hb : EVP B C b σ H fun v H2 => IsKey H2 v x y) (hm : behindInMarks .In a = false := by rfl) : ET B C (.Compare b [.In] [a] pos) σ H (valV kvs (pk x y)).isSome := fun H1 g Q q =>
  of_pt (pt_cmp (pc_din hu pe_S pe_S) hm) (hb H1 g _ fun u H2 g2 hk => ha H2 (g.trans g2) _ fun v H3 g3 e => by
    subst e
    exact ⟨r, _, rfl, dget_of ((g.trans (g2.trans g3)).keep _ _ hr fun ps z => by cases z) (hk.mono g3), _, rfl, q H3 (g2.trans g3)⟩)
/-- d.get(key, e) -/
theorem ex_dgetd {r : Addr} {kvs : List (List Key × V)} {x y : Int} {w : V} {o : Expr} {apos : Pos} (hu : C.A.units + 1 < cLine) (ho : EX B C o σ H (.ref r)) (hr : H r = some (.dT kvs)) (hb : EVP B C a σ H fun v H2 => IsKey H2 v x y) (he : EX B C b σ H w) (m : M2 C o "get" apos a b pos) : EX B C (.Call (.Attribute o "get" apos) [a, b] [] pos) σ H ((valV kvs (pk x y)).getD w) := fun H1 g Q q =>
  of_pe (pe_dget2 hu pe_S pe_S pe_S m) (ho H1 g _ fun v H2 g2 e => by
    subst e
    have k2 := (g.trans g2).keep _ _ hr fun ps z => by cases z
    exact ⟨r, rfl, .inr ⟨kvs, .inl k2⟩, hb H2 (g.trans g2) _ fun u H3 g3 hk => he H3 (g.trans (g2.trans g3)) _ fun z H4 g4 ez => by
      subst ez
      exact ⟨_, dget_of ((g3.trans g4).keep _ _ k2 fun ps z => by cases z) (hk.mono g4), q _ H4 (g2.trans (g3.trans g4)) rfl⟩⟩)
/-! ### calls of one's own defs -/
/-- arguments of which R holds -/
def EAP (B : Amb) (C : Cx) (es : List Expr) (σ : L2.St) (H : Hp) (R : List V → Hp → Prop) : Prop := ∃ t : TA, PA C es t ∧ ∀ H1, Gr B H H1 → ∀ Q : List V → Hp → Prop, (∀ vs H2, Gr B H1 H2 → R vs H2 → Q vs H2) → t σ H1 Q
theorem eap_nil : EAP B C [] σ H fun vs _ => vs = [] := ⟨_, pa_nil, fun H1 g Q q => q [] H1 g.self rfl⟩
theorem eap_cons {es : List Expr} {P : V → Hp → Prop} {R : List V → Hp → Prop} (h : EVP B C a σ H P) (mono : ∀ v H1 H2, Gr B H1 H2 → P v H1 → P v H2) (r : EAP B C es σ H R) (hs : starEach (a :: es) C.env = (false, eval a C.env) :: starEach es C.env := by rfl) : EAP B C (a :: es) σ H fun vs H2 => ∃ v ws, vs = v :: ws ∧ P v H2 ∧ R ws H2 := by
  obtain ⟨t, pt, ht⟩ := r
  refine ⟨_, pa_cons pe_S pt hs, fun H1 g Q q => h H1 g _ fun v H2 g2 hv => ht H2 (g.trans g2) _ fun vs H3 g3 hvs => q _ H3 (g2.trans g3) ⟨v, vs, rfl, mono v H2 H3 g3 hv, hvs⟩⟩
/-- an exact value ahead; data ahead -/
theorem eap_x {es : List Expr} {w : V} {R : List V → Hp → Prop} (h : EX B C a σ H w) (r : EAP B C es σ H R) (hs : starEach (a :: es) C.env = (false, eval a C.env) :: starEach es C.env := by rfl) : EAP B C (a :: es) σ H fun vs H2 => ∃ ws, vs = w :: ws ∧ R ws H2 := by
  obtain ⟨t, pt, ht⟩ := eap_cons h (fun v H1 H2 _ z => z) r hs
  exact ⟨t, pt, fun H1 g Q q => ht H1 g Q fun vs H2 g2 ⟨v, ws, e, e1, hr⟩ => q vs H2 g2 ⟨ws, by rw [e, e1], hr⟩⟩
theorem eap_d {es : List Expr} {d : PyData} {R : List V → Hp → Prop} (h : EV B C a σ H d) (r : EAP B C es σ H R) (hs : starEach (a :: es) C.env = (false, eval a C.env) :: starEach es C.env := by rfl) : EAP B C (a :: es) σ H fun vs H2 => ∃ v ws, vs = v :: ws ∧ Is B.X H2 v d ∧ R ws H2 := eap_cons h (fun v H1 H2 g z => z.mono g) r hs
/-- o.m(e ..): sp is met at every grown heap -/
theorem evp_meth {k : Nat} {f Cc p dx : Addr} {fd : FuncData} {ps : List Str} {sp : Sp} {o : Expr} {es : List Expr} {m : Str} {apos : Pos} {pl : Sem Bool} {fs : List (Str × V)} {PV : V → Hp → Prop} {CXt : CXT} {E : XK} (F : FnOk C.prog C.w C.K C.mg C.base CXt k f fd ps sp) (hr : Room k C.A) (hb : Binds C.K fd ps []) (hx : Passes CXt C E) (c : Cls C.K Cc) (hm : Meth C.K Cc m f)
    (ho : EX B C o σ H (.ref p)) (hp : H p = some (.ins Cc dx fs)) (hl : fs.lookup m = none) {R : List V → Hp → Prop} (ha : EAP B C (e :: es) σ H R) (hsp : ∀ H2 vs (Q : VK), Gr B H H2 → R vs H2 → (∀ v H3, Gr B H2 H3 → PV v H3 → Q v H3) → sp (.ref p :: vs) H2 Q E)
    (hst : starEach (e :: es) C.env = (false, eval e C.env) :: starEach es C.env := by rfl) (hpl : (backTo pos (starEach es C.env)).any (·.1) = false := by rfl)
    (ht : eval (.Call (.Attribute o m apos) (e :: es) [] pos) C.env = (do
      let ov ← eval o C.env
      standAt apos.atName
      let (f, first) ← holding [ov] (getMethod ov m pl)
      callWith pos f first (backTo pos (starEach (e :: es) C.env)) (backToKw pos (keywordEach [] C.env))) := by rfl) : EVP B C (.Call (.Attribute o m apos) (e :: es) [] pos) σ H PV := fun H1 g Q q => by
  obtain ⟨t, pt, hta⟩ := ha
  refine of_pe (pe_meth pe_S c hm F hr hb .nil hx pt hst hpl ht) (ho H1 g _ fun v H2 g2 e => ?_)
  subst e
  refine ⟨p, dx, fs, rfl, (g.trans g2).keep _ _ hp (fun ps z => by cases z), hl, hta H2 (g.trans g2) _ fun vs H3 g3 hvs => ?_⟩
  rw [List.append_nil]
  exact hsp H3 vs Q (g.trans (g2.trans g3)) hvs fun v H4 g4 pv => q v H4 (g2.trans (g3.trans g4)) pv
theorem evp_call {k : Nat} {f : Addr} {fd : FuncData} {ps : List Str} {sp : Sp} {x : Str} {px : Pos} {es : List Expr} {PV : V → Hp → Prop} {CXt : CXT} {E : XK} (F : FnOk C.prog C.w C.K C.mg C.base CXt k f fd ps sp) (hr : Room k C.A) (hb : Binds C.K fd ps []) (hx : Passes CXt C E) (hg : Gl C x) (hm : C.mg x = some (.ref f)) (hk : PySem.W.keepIn C.K (.ref f) = true)
    {R : List V → Hp → Prop} (ha : EAP B C (e :: es) σ H R) (hsp : ∀ H2 vs (Q : VK), Gr B H H2 → R vs H2 → (∀ v H3, Gr B H2 H3 → PV v H3 → Q v H3) → sp vs H2 Q E)
    (hdb : (x == ("__debug__" : Str)) = false := by decide) (he : starEach (e :: es) C.env = (false, eval e C.env) :: starEach es C.env := by rfl) (hpl : (backTo pos (starEach es C.env)).any (·.1) = false := by rfl) : EVP B C (.Call (.Name x px) (e :: es) [] pos) σ H PV := fun H1 g Q q => by
  obtain ⟨t, pt, hta⟩ := ha
  refine of_pe (pe_call F hr hg hm hk hb .nil hx pt hdb he hpl) (hta H1 g _ fun vs H3 g3 hvs => ?_)
  rw [List.append_nil]
  exact hsp H3 vs Q (g.trans g3) hvs fun v H4 g4 pv => q v H4 (g3.trans g4) pv
end
end K22
end
section
set_option Elab.async false
set_option linter.all false
set_option maxRecDepth 100000
set_option maxHeartbeats 4000000
/-! K22Pipe: the class of pipes: what an object holds; __init__, lay, more_room, ways_from. -/
namespace K22
open PySem PySem.Spec PyProof.Rows L2 NdefX Pm
/-! ### d.setdefault(pair, e) -/
theorem d_setdT {X : Cx} {pins : List (Addr × Obj)} {σ : L2.St} {H : Hp} {s : Shared} {a b : Addr} {d : V} {r : Value} {A : Around} {E : Value → Shared → Prop} {kvs : List (List Key × V)} {k : List Key} {Q : Value → Shared → Prop} (hu : A.units + 1 < cLine) (I : Inv X pins σ H s) (e : H a = some (.dT kvs)) (eb : H b = some (.tup (k.map kV))) (rd : RelV d r) (hl : kvs.length < sizeLine)
    (h1 : ∀ v, valV kvs k = some v → ∀ (w' : Value) (s' : Shared), Inv X pins σ H s' → RelV v w' → Q w' s') (h2 : valV kvs k = none → ∀ (w' : Value) (s' : Shared), Inv X pins σ (upd H a (.dT (putK kvs k d))) s' → RelV d w' → Q w' s') :
    wpAny (model X.prog X.w) A (call (.builtin "dict.setdefault") [.ref a, .ref b, r]) Q E s := by
  obtain ⟨z, hd, xs, rel, dd⟩ := dt_of I.hok e
  have hz : xs.length ≤ sizeLine := by rw [← Paired.length rel]; exact z
  have q0 := rel.val k
  refine call_setdefault_heap (hsz := hz) (tupleKind_room_in1 hu) (key_of I.hok eb) hd dd (fun p hp => ?_) fun hn h' dd' hs => ?_
  · rw [hp] at q0
    cases q1 : valV kvs k with
    | none =>
      rw [q1] at q0
      exact (show False from q0).elim
    | some v0 =>
      rw [q1] at q0
      exact h1 v0 q1 _ _ (I.tok _) q0
  · rw [hn] at q0
    cases q1 : valV kvs k with
    | some v0 =>
      rw [q1] at q0
      exact (show False from q0).elim
    | none =>
      have hl2 : (putK kvs k d).length ≤ sizeLine := by have := length_putK kvs k d; omega
      obtain ⟨q, es, ep, hq, g2, g3, g4, _, g5⟩ := dd'
      refine h2 q1 _ _ (d_write (t' := _) I (by rw [e]; exact True.intro) hs ⟨q, hq⟩ ⟨hl2, hd, _, (rel.put k eb rd).keeps fun c ys ec => ?_, q, es, ep, hq, g2, g3, g4, g5⟩) rd
      rw [upd_ne (ne_of ec e (fun z => nomatch z))]
      exact ec
def tDSetdT (td ty tx : TE) : TE := fun σ H Q => td σ H fun x H1 => ∃ a, x = .ref a ∧ IsD H1 a ∧ ty σ H1 fun y H2 => tx σ H2 fun z H3 => ∃ (kvs : List (List Key × V)) (k : List Key) (b : Addr), H3 a = some (.dT kvs) ∧ y = .ref b ∧ H3 b = some (.tup (k.map kV)) ∧ kvs.length < sizeLine ∧
  (∀ v, valV kvs k = some v → Q v H3) ∧ (valV kvs k = none → Q z (upd H3 a (.dT (putK kvs k z))))
theorem pe_dsetdT {X : Cx} {o e f : Expr} {td ty tx : TE} {apos cpos : Pos} (hu : X.A.units + 1 < cLine) (ho : PE X o td) (he : PE X e ty) (hf : PE X f tx) (m : M2 X o "setdefault" apos e f cpos) : PE X (.Call (.Attribute o "setdefault" apos) [e, f] [] cpos) (tDSetdT td ty tx) := by
  refine ⟨fun pins s σ H Q I h => ?_⟩
  refine wpAny_Call_method m.base m.few m.line PySem.F.plainAttrs_dict PySem.F.slot_dict_setdefault PySem.F.type_dict_setdefault (thn (ho.run pins s σ H _ I h) fun u s1 ⟨x, H1, I1, rx, a, ex, d, q1⟩ => ?_)
  subst ex
  obtain rfl : u = Value.ref a := rx
  obtain ⟨t1, t2, _⟩ := isD_at I1 d
  refine ⟨t1, t2, ?_⟩
  rw [m.trees]
  refine Calls.callWith_builtin rfl (Calls.evalArgs_plain (Calls.spliced_cons (thn (he.run pins s1 σ H1 _ I1 q1) fun iv s2 ⟨y, H2, I2, ry, q2⟩ =>
    Calls.spliced_cons (thn (hf.run pins s2 σ H2 _ I2 q2) fun fv s3 ⟨z, H3, I3, rz, kvs, k, b, ea, ey, eb, hl, q3, q4⟩ => Calls.spliced_nil ?_))))
  subst ey
  obtain rfl : iv = Value.ref b := ry
  exact d_setdT hu I3 ea eb rz hl (fun v hv w' s4 I4 rw' => ⟨v, _, I4, rw', q3 v hv⟩) fun hn w' s4 I4 rw' => ⟨z, _, I4, rw', q4 hn⟩
/-! ### the text by places -/
def top (i : Nat) : Stmt := PySem.Challenge.pw_pairmart_k22_several_each_with_bounds.main.body.getD i (.Pass ⟨0, 0, 0, 0⟩)
abbrev sPInit : Stmt := inClass (top 12) 0
abbrev sLay : Stmt := inClass (top 12) 1
abbrev sMore : Stmt := inClass (top 12) 2
abbrev sFrom : Stmt := inClass (top 12) 3
abbrev sWay : Stmt := inClass (top 12) 4
abbrev sSend : Stmt := inClass (top 12) 5
abbrev sReach : Stmt := inClass (top 12) 6
/-! ### what a Pipes object holds -/
def pfl (m : Int) (r g : Addr) : List (Str × V) := putF "going" (.ref g) (putF "room" (.ref r) (putF "places" (.int m) []))
theorem ne_gr : ¬ (("room" : Str) = "going") := by decide +kernel
theorem ne_gp : ¬ (("places" : Str) = "going") := by decide +kernel
theorem ne_rp : ¬ (("places" : Str) = "room") := by decide +kernel
theorem pfl_p (m : Int) (r g : Addr) : (pfl m r g).lookup ("places" : Str) = some (.int m) := by
  unfold pfl
  rw [lookup_putF, if_neg ne_gp, lookup_putF, if_neg ne_rp, lookup_putF, if_pos rfl]
theorem pfl_r (m : Int) (r g : Addr) : (pfl m r g).lookup ("room" : Str) = some (.ref r) := by
  unfold pfl
  rw [lookup_putF, if_neg ne_gr, lookup_putF, if_pos rfl]
theorem pfl_g (m : Int) (r g : Addr) : (pfl m r g).lookup ("going" : Str) = some (.ref g) := by
  unfold pfl
  rw [lookup_putF, if_pos rfl]
theorem pfl_no (m : Int) (r g : Addr) {x : Str} (h1 : ¬ x = "going") (h2 : ¬ x = "room") (h3 : ¬ x = "places") : (pfl m r g).lookup x = none := by
  unfold pfl
  rw [lookup_putF, if_neg h1, lookup_putF, if_neg h2, lookup_putF, if_neg h3]
  rfl
/-- a dict of ints by pairs: f where T says so -/
structure DH (H : Hp) (a : Addr) (n : Nat) (T : Int → Int → Bool) (f : Int → Int → Int) : Prop where
  ex : ∃ kvs, H a = some (.dT kvs) ∧ kvs.length ≤ n ∧ ∀ x y, valV kvs (pk x y) = if T x y = true then some (.int (f x y)) else none
/-- pipes at p: the places, what was laid, what goes -/
structure PipeAt (Cp : Addr) (H : Hp) (p r g : Addr) (m : Nat) (ops : List Op) (gf : Int → Int → Int) : Prop where
  ob : ∃ dx, H p = some (.ins Cp dx (pfl m r g))
  rm : DH H r (2 * ops.length) (touch ops) (cap ops)
  gg : DH H g (2 * ops.length) (touch ops) gf
  ne : r ≠ g
theorem DH.mono {B : Amb} {H H' : Hp} {a : Addr} {n : Nat} {T : Int → Int → Bool} {f : Int → Int → Int} (d : DH H a n T f) (g : Gr B H H') : DH H' a n T f := by
  obtain ⟨kvs, e, h⟩ := d.ex
  exact ⟨kvs, g.keep a _ e (fun ps z => by cases z), h⟩
theorem PipeAt.mono {B : Amb} {Cp : Addr} {H H' : Hp} {p r g : Addr} {m : Nat} {ops : List Op} {gf : Int → Int → Int} (P : PipeAt Cp H p r g m ops gf) (q : Gr B H H') : PipeAt Cp H' p r g m ops gf := by
  obtain ⟨dx, e⟩ := P.ob
  exact ⟨⟨dx, q.keep p _ e (fun ps z => by cases z)⟩, P.rm.mono q, P.gg.mono q, P.ne⟩
theorem touch_snoc (ops : List Op) (o : Op) (x y : Int) : touch (ops ++ [o]) x y = (touch ops x y || ((decide (o.1 = x) && decide (o.2.1 = y)) || (decide (o.1 = y) && decide (o.2.1 = x)))) := by
  unfold touch
  rw [List.any_append]
  simp
theorem cap_snoc (ops : List Op) (o : Op) (x y : Int) : cap (ops ++ [o]) x y = cap ops x y + (if o.1 = x ∧ o.2.1 = y then o.2.2 else 0) := by
  unfold cap
  rw [sm_append, sm_cons, sm_nil]
  omega
theorem cap_untouched {ops : List Op} {x y : Int} (h : touch ops x y = false) : cap ops x y = 0 := by
  unfold cap
  refine sm_zero fun o ho => if_neg fun z => ?_
  unfold touch at h
  have := (List.any_eq_false.mp h) o ho
  exact this (by simp [z.1, z.2])
theorem pk_inj {x y x' y' : Int} : (pk x y = pk x' y') ↔ (x = x' ∧ y = y') := by
  simp [pk]
theorem DH.w {B : Amb} {S : List Addr} {H H' : Hp} {a : Addr} {n : Nat} {T : Int → Int → Bool} {f : Int → Int → Int} (d : DH H a n T f) (g : Gw B S H H') (h : a ∉ S) : DH H' a n T f := by
  obtain ⟨kvs, e, q⟩ := d.ex
  exact ⟨kvs, g.keep a _ e (fun ps z => by cases z) h, q⟩
theorem DH.put {H : Hp} {a : Addr} {n : Nat} {T : Int → Int → Bool} {f : Int → Int → Int} {kvs : List (List Key × V)} {x y z : Int} (hl : kvs.length ≤ n) (hq : ∀ x y, valV kvs (pk x y) = if T x y = true then some (.int (f x y)) else none) :
    DH (upd H a (.dT (putK kvs (pk x y) (.int z)))) a (n + 1) (fun x' y' => T x' y' || (decide (x' = x) && decide (y' = y))) (fun x' y' => if x' = x ∧ y' = y then z else f x' y') := by
  refine ⟨_, upd_same, Nat.le_trans (length_putK _ _ _) (by omega), fun x' y' => ?_⟩
  rw [valV_put]
  by_cases h : x' = x ∧ y' = y
  · rw [if_pos (by rw [pk_inj]; exact h)]
    simp [h]
  · rw [if_neg (by rw [pk_inj]; exact h), hq]
    have h' : (decide (x' = x) && decide (y' = y)) = false := by
      by_cases hx : x' = x
      · have hy : ¬ y' = y := fun e => h ⟨hx, e⟩
        simp [hy]
      · simp [hx]
    rw [h', Bool.or_false, if_neg h]
theorem DH.to {H : Hp} {a : Addr} {n n' : Nat} {T T' : Int → Int → Bool} {f f' : Int → Int → Int} (d : DH H a n T f) (hn : n ≤ n') (hT : ∀ x y, T x y = T' x y) (hf : ∀ x y, T x y = true → f x y = f' x y) : DH H a n' T' f' := by
  obtain ⟨kvs, e, hl, q⟩ := d.ex
  refine ⟨kvs, e, Nat.le_trans hl hn, fun x y => ?_⟩
  rw [q, ← hT]
  by_cases h : T x y = true
  · rw [if_pos h, if_pos h, hf x y h]
  · rw [if_neg h, if_neg h]
section
variable {B : Amb} {C : Cx} {o i e : Expr} {D : Ends} {σ : L2.St} {H : Hp} {pos pos' : Pos} {r : Addr} {n : Nat} {T : Int → Int → Bool} {f : Int → Int → Int} {x y z : Int}
/-- d[pair] = int -/
theorem s_dput (hu : C.A.units + 1 < cLine) (tk : TK B H) (ho : EX B C o σ H (.ref r)) (hi : EVP B C i σ H fun v H2 => IsKey H2 v x y) (hv : EV B C e σ H (.int z)) (d : DH H r n T f) (hn : n ≤ 1000)
    (k : ∀ H', Gw B [r] H H' → DH H' r (n + 1) (fun x' y' => T x' y' || (decide (x' = x) && decide (y' = y))) (fun x' y' => if x' = x ∧ y' = y then z else f x' y') → D.nx σ H')
    (hs : swapsWith e (some (.Subscript o i pos')) pos.line C.env = pure false := by rfl) : sS C (.Assign [.Subscript o i pos'] e pos) D σ H :=
  of_ps (ps_dput hu pe_S pe_S pe_S hs) (hv.go tk fun v H2 g2 hv2 => ho H2 g2 _ fun w H3 g3 ew => hi H3 (g2.trans g3) _ fun u H4 g4 hk => by
    subst ew
    rw [hv2.int_eq]
    have g := g2.trans (g3.trans g4)
    obtain ⟨kvs, e4, hl, hq⟩ := (d.mono g).ex
    obtain ⟨b, rfl, eb⟩ := hk
    refine ⟨r, _, rfl, .t (k := pk x y) e4 eb (small1000 (by omega)), k _ (g.w.trans (.upd g4.tk e4 (fun ps z => by cases z) fun q z => by cases z)) (DH.put hl hq)⟩)
/-- d.setdefault(pair, 0) -/
theorem s_dsetd {a b : Expr} {apos cpos : Pos} (hu : C.A.units + 1 < cLine) (tk : TK B H) (ho : EX B C o σ H (.ref r)) (hi : EVP B C a σ H fun v H2 => IsKey H2 v x y) (hv : EV B C b σ H (.int z)) (d : DH H r n T f) (hn : n ≤ 1000)
    (k : ∀ H', Gw B [r] H H' → DH H' r (n + 1) (fun x' y' => T x' y' || (decide (x' = x) && decide (y' = y))) (fun x' y' => if T x' y' = true then f x' y' else if x' = x ∧ y' = y then z else f x' y') → D.nx σ H')
    (m : M2 C o "setdefault" apos a b cpos) (hs : swapsWith (.Call (.Attribute o "setdefault" apos) [a, b] [] cpos) none pos.line C.env = pure false := by rfl) : sS C (.Expr (.Call (.Attribute o "setdefault" apos) [a, b] [] cpos) pos) D σ H :=
  of_ps (ps_expr (pe_dsetdT hu pe_S pe_S pe_S m) hs) (ho.go tk fun w H2 g2 ew => by
    subst ew
    obtain ⟨kvs, e2, hl, hq⟩ := (d.mono g2).ex
    refine ⟨r, rfl, .inr ⟨kvs, .inl e2⟩, hi H2 g2 _ fun u H3 g3 hk => hv H3 (g2.trans g3) _ fun v H4 g4 hv2 => ?_⟩
    rw [hv2.int_eq]
    have g := g2.trans (g3.trans g4)
    have e4 := (g3.trans g4).keep _ _ e2 fun ps z => by cases z
    obtain ⟨b, rfl, eb⟩ := hk.mono g4
    refine ⟨kvs, pk x y, b, e4, rfl, eb, small1000 (by omega), fun v' hv' => ?_, fun hv' => ?_⟩
    · rw [hq] at hv'
      have hT : T x y = true := by
        by_cases h : T x y = true
        · exact h
        · rw [if_neg h] at hv'; cases hv'
      refine k _ g.w ?_
      refine (d.mono g).to (Nat.le_succ _) (fun x' y' => ?_) (fun x' y' h => by rw [if_pos h])
      by_cases h : x' = x ∧ y' = y
      · rw [h.1, h.2, hT]; rfl
      · have h' : (decide (x' = x) && decide (y' = y)) = false := by
          by_cases hx : x' = x
          · have hy : ¬ y' = y := fun e => h ⟨hx, e⟩
            simp [hy]
          · simp [hx]
        rw [h', Bool.or_false]
    · rw [hq] at hv'
      have hT : ¬ T x y = true := by
        intro h
        rw [if_pos h] at hv'; cases hv'
      refine k _ (g.w.trans (.upd g4.tk e4 (fun ps z => by cases z) fun q z => by cases z)) ((DH.put hl hq).to (Nat.le_refl _) (fun _ _ => rfl) fun x' y' _ => ?_)
      by_cases h : x' = x ∧ y' = y
      · rw [h.1, h.2, if_neg hT]
      · rw [if_neg h]
        by_cases hT2 : T x' y' = true
        · rw [if_pos hT2]
        · rw [if_neg hT2])
end
/-! ### the class as the top has made it -/
structure TxP (K : PySem.W.Frag) (Cp : Addr) : Prop where
  cl : Cls K Cp
  nP : NoAttr K Cp "places"
  nR : NoAttr K Cp "room"
  nG : NoAttr K Cp "going"
end K22
end
section
set_option Elab.async false
set_option linter.all false
set_option maxRecDepth 100000
set_option maxHeartbeats 4000000
/-! K22Dat: data and their equality; lists that change; one's own dict of ints. -/
namespace K22
open PySem PySem.Spec PyProof.Rows L2 NdefX Pm
/-- plain data, at most n deep -/
structure Pl (n : Nat) (d : PyData) : Prop where
  lay : d.canLay0 = true
  dep : d.depth ≤ n
theorem pl_int {i : Int} : Pl 0 (.int i) := ⟨rfl, Nat.le_refl _⟩
theorem pl_bool {b : Bool} : Pl 0 (.bool b) := ⟨rfl, Nat.le_refl _⟩
theorem pl_non : Pl 0 .none := ⟨rfl, Nat.le_refl _⟩
theorem Pl.mono {n m : Nat} {d : PyData} (h : Pl n d) (l : n ≤ m) : Pl m d := ⟨h.lay, Nat.le_trans h.dep l⟩
theorem pl_all {n : Nat} : ∀ {ds : List PyData}, (∀ d ∈ ds, Pl n d) → PyData.canLayAll0 ds = true ∧ PyData.depthAll ds ≤ n
  | [], _ => ⟨by rw [PyData.canLayAll0], by rw [PyData.depthAll]; exact Nat.zero_le _⟩
  | d :: ds, h => by
    obtain ⟨h1, h2⟩ := pl_all fun e he => h e (List.mem_cons_of_mem _ he)
    have h3 := h d List.mem_cons_self
    exact ⟨by rw [PyData.canLayAll0, h3.lay, h1]; rfl, by rw [PyData.depthAll]; exact Nat.max_le.mpr ⟨h3.dep, h2⟩⟩
theorem pl_list {n : Nat} {ds : List PyData} (h : ∀ d ∈ ds, Pl n d) : Pl (n + 1) (.list ds) := ⟨by rw [PyData.canLay0]; exact (pl_all h).1, by rw [PyData.depth]; exact Nat.succ_le_succ (pl_all h).2⟩
theorem pl_tup {n : Nat} {ds : List PyData} (h : ∀ d ∈ ds, Pl n d) : Pl (n + 1) (.tuple ds) := ⟨by rw [PyData.canLay0]; exact (pl_all h).1, by rw [PyData.depth]; exact Nat.succ_le_succ (pl_all h).2⟩
theorem Pl.shaped {n : Nat} {d : PyData} (h : Pl n d) (l : n ≤ 64) : SeqAt.shaped d = true := by
  unfold SeqAt.shaped
  rw [h.lay, decide_eq_true (Nat.le_trans h.dep l)]
  rfl
/-- ints, pairs, lots as data -/
def iD (ks : List Int) : List PyData := ks.map PyData.int
def pD (p : Int × Int) : PyData := .tuple [.int p.1, .int p.2]
def lotD (l : Lot) : PyData := .tuple (l.map pD)
theorem pl_iD {ks : List Int} : ∀ d ∈ iD ks, Pl 0 d := fun d hd => by
  obtain ⟨i, _, rfl⟩ := List.mem_map.mp hd
  exact pl_int
theorem pl_pD (p : Int × Int) : Pl 1 (pD p) := pl_tup fun d hd => by
  rcases List.mem_cons.mp hd with e | hd
  · rw [e]; exact pl_int
  · rw [List.mem_singleton.mp hd]; exact pl_int
theorem pl_lotD (l : Lot) : Pl 2 (lotD l) := pl_tup fun d hd => by
  obtain ⟨p, _, rfl⟩ := List.mem_map.mp hd
  exact pl_pD p
theorem eqv_int (i j : Int) : PyData.eqv (.int i) (.int j) = decide (i = j) := by
  rw [PyData.eqv]
  by_cases h : i = j
  · simp [h]
  · simp [h]
theorem eqvAll_map {α : Type} [DecidableEq α] {f : α → PyData} (hf : ∀ a b, PyData.eqv (f a) (f b) = decide (a = b)) : ∀ (l r : List α), PyData.eqvAll (l.map f) (r.map f) = decide (l = r)
  | [], [] => by simp [PyData.eqvAll]
  | [], b :: r => by simp [PyData.eqvAll]
  | a :: l, [] => by simp [PyData.eqvAll]
  | a :: l, b :: r => by
    rw [List.map_cons, List.map_cons, PyData.eqvAll, hf, eqvAll_map hf l r]
    by_cases h1 : a = b
    · by_cases h2 : l = r
      · simp [h1, h2]
      · simp [h1, h2]
    · simp [h1]
theorem eqv_pD (p q : Int × Int) : PyData.eqv (pD p) (pD q) = decide (p = q) := by
  unfold pD
  rw [PyData.eqv, PyData.eqvAll, PyData.eqvAll, PyData.eqvAll, eqv_int, eqv_int]
  obtain ⟨a, b⟩ := p
  obtain ⟨c, d⟩ := q
  by_cases h1 : a = c
  · by_cases h2 : b = d
    · simp [h1, h2]
    · simp [h1, h2]
  · simp [h1]
theorem eqv_lotD (l r : Lot) : PyData.eqv (lotD l) (lotD r) = decide (l = r) := by
  unfold lotD
  rw [PyData.eqv, eqvAll_map eqv_pD]
theorem eqv_lists {α : Type} [DecidableEq α] {f : α → PyData} (hf : ∀ a b, PyData.eqv (f a) (f b) = decide (a = b)) (l r : List α) : PyData.eqv (.list (l.map f)) (.list (r.map f)) = decide (l = r) := by
  rw [PyData.eqv, eqvAll_map hf]
theorem eqv_tups {α : Type} [DecidableEq α] {f : α → PyData} (hf : ∀ a b, PyData.eqv (f a) (f b) = decide (a = b)) (l r : List α) : PyData.eqv (.tuple (l.map f)) (.tuple (r.map f)) = decide (l = r) := by
  rw [PyData.eqv, eqvAll_map hf]
theorem any_eqv {α : Type} [DecidableEq α] {f : α → PyData} (hf : ∀ a b, PyData.eqv (f a) (f b) = decide (a = b)) (a : α) (l : List α) : (l.map f).any (fun z => PyData.eqv z (f a)) = decide (a ∈ l) := by
  induction l with
  | nil => rfl
  | cons b l ih =>
    rw [List.map_cons, List.any_cons, ih, hf]
    by_cases h1 : b = a
    · simp [h1]
    · have h2 : ¬ a = b := fun z => h1 z.symm
      simp [h1, h2]
/-! ### lists of ints that change -/
abbrev iV (ks : List Int) : List V := ks.map V.int
theorem is_iV {X : List Addr} {H : Hp} {a : Addr} {ks : List Int} (h : H a = some (.lst (iV ks))) (hx : a ∉ X) : Is X H (.ref a) (.list (iD ks)) := by
  have := ints_iss (H := H) (X := X) ks
  exact .lst h hx this.1 this.2
section
variable {B : Amb} {C : Cx} {o e a b : Expr} {D : Ends} {σ : L2.St} {H : Hp} {pos apos cpos : Pos}
/-- xs != [] -/
theorem et_ne_nil {l : Addr} {ks : List Int} (hu : C.A.units + 64 < cLine) (ho : EX B C o σ H (.ref l)) (hl : H l = some (.lst (iV ks))) : ET B C (.Compare o [.NotEq] [.List [] apos] pos) σ H (!decide (ks = [])) := fun H1 g Q q =>
  of_pt (pt_cmpR (op_neD hu) pe_S (pe_lst pa_nil) (nomark _)) (ho H1 g _ fun v H2 g2 ev => by
    subst ev
    refine ⟨by decide, fun p hp => ?_⟩
    have g3 := Gr.new (o := .lst []) g2.tk hp
    have e3 : (upd H2 p (.lst [])) l = some (.lst (iV ks)) := g3.keep _ _ ((g.trans g2).keep _ _ hl fun ps z => by cases z) fun ps z => by cases z
    refine ⟨.list (iD ks), .list [], (is_iV (X := []) e3 (by simp)).dp, (is_iV (X := []) (ks := []) upd_same (by simp)).dp, (pl_list pl_iD).shaped (by decide), (pl_list (n := 0) fun d hd => by cases hd).shaped (by decide), _, rfl, ?_⟩
    have e : PyData.eqv (.list (iD ks)) (.list []) = decide (ks = []) := eqv_lists (f := PyData.int) eqv_int ks []
    rw [e]
    exact q _ (g2.trans g3))
/-- xs.append(e) -/
theorem s_append {l : Addr} {xs : List V} {w : V} (tk : TK B H) (ho : EX B C o σ H (.ref l)) (he : EX B C e σ H w) (hl : H l = some (.lst xs)) (hz : xs.length ≤ 1000000) (k : ∀ H2, Gr B H H2 → D.nx σ (upd H2 l (.lst (xs ++ [w]))))
    (hbase : attributeBase o "append" C.env (eval o C.env) = eval o C.env := by rfl)
    (hfew : ((backTo cpos (starEach [e] C.env)).all (fun x => !x.1) && (backToKw cpos (keywordEach [] C.env)).all (fun x => x.1.isSome)
      && decide (([e] : List Expr).length + ([] : List Keyword).length + (if ([] : List Keyword).isEmpty then 0 else 1) < 30)) = true := by rfl)
    (hline : (apos.endLine == cpos.line) = true := by rfl) (hs : starEach [e] C.env = (false, eval e C.env) :: starEach [] C.env := by rfl) (hplain : (backTo cpos (starEach [] C.env)).any (·.1) = false := by rfl) (hsw : swapsWith (.Call (.Attribute o "append" apos) [e] [] cpos) none pos.line C.env = pure false := by rfl) :
    sS C (.Expr (.Call (.Attribute o "append" apos) [e] [] cpos) pos) D σ H :=
  s_expr (of_pe (pe_bm PySem.F.plainAttrs_list PySem.F.slot_list_append PySem.F.type_list_append mt_append pe_S (pa_cons pe_S pa_nil hs) hbase hfew hline hs hplain) (ho.go tk fun v H1 g1 ev => by
    subst ev
    have e1 := g1.keep _ _ hl fun ps z => by cases z
    refine ⟨.inl ⟨rfl, xs, .inl (.inl e1)⟩, he H1 g1 _ fun u H2 g2 eu => ?_⟩
    subst eu
    have e2 := g2.keep _ _ e1 fun ps z => by cases z
    have h3 : (1000000 : Nat) < sizeLine := by decide
    exact ⟨l, xs, _, rfl, rfl, e2, by omega, k H2 (g1.trans g2)⟩)) hsw
/-- xs.pop(0) -/
theorem t_pop0 {l : Addr} {xs : List V} {w : V} {j : Nat} {p0 : Pos} {Q : VK} (tk : TK B H) (ho : EX B C o σ H (.ref l)) (hl : H l = some (.lst (w :: xs))) (k : ∀ H2, Gr B H H2 → Q w (upd H2 l (.lst xs)))
    (hbase : attributeBase o "pop" C.env (eval o C.env) = eval o C.env := by rfl)
    (hfew : ((backTo cpos (starEach [.Constant (.int 0) j p0] C.env)).all (fun x => !x.1) && (backToKw cpos (keywordEach [] C.env)).all (fun x => x.1.isSome)
      && decide (([.Constant (.int 0) j p0] : List Expr).length + ([] : List Keyword).length + (if ([] : List Keyword).isEmpty then 0 else 1) < 30)) = true := by rfl)
    (hline : (apos.endLine == cpos.line) = true := by rfl) (hs : starEach [.Constant (.int 0) j p0] C.env = (false, eval (.Constant (.int 0) j p0) C.env) :: starEach [] C.env := by rfl) (hplain : (backTo cpos (starEach [] C.env)).any (·.1) = false := by rfl) :
    tS C (.Call (.Attribute o "pop" apos) [.Constant (.int 0) j p0] [] cpos) σ H Q :=
  of_pe (pe_bm PySem.F.plainAttrs_list PySem.F.slot_list_pop PySem.F.type_list_pop mt_popAt pe_S (pa_cons pe_int pa_nil hs) hbase hfew hline hs hplain) (ho.go tk fun v H1 g1 ev => by
    subst ev
    have e1 := g1.keep _ _ hl fun ps z => by cases z
    refine ⟨.inl ⟨rfl, _, .inl (.inl e1)⟩, l, w :: xs, 0, 0, w, rfl, rfl, e1, by decide, by decide, ?_, rfl, k H1 g1⟩
    unfold seqIndex?
    simp)
/-- xs.pop() -/
theorem t_pop {l : Addr} {xs : List V} {w : V} {Q : VK} (tk : TK B H) (ho : EX B C o σ H (.ref l)) (hl : H l = some (.lst (xs ++ [w]))) (k : ∀ H2, Gr B H H2 → Q w (upd H2 l (.lst xs)))
    (hbase : attributeBase o "pop" C.env (eval o C.env) = eval o C.env := by rfl) (hline : (apos.endLine == cpos.line) = true := by rfl) :
    tS C (.Call (.Attribute o "pop" apos) [] [] cpos) σ H Q :=
  of_pe (pe_bm0 PySem.F.plainAttrs_list PySem.F.slot_list_pop PySem.F.type_list_pop mt_pop pe_S hbase hline) (ho.go tk fun v H1 g1 ev => by
    subst ev
    have e1 := g1.keep _ _ hl fun ps z => by cases z
    refine ⟨.inl ⟨rfl, _, .inl (.inl e1)⟩, l, xs ++ [w], w, rfl, rfl, e1, by simp, ?_⟩
    rw [List.dropLast_concat]
    exact k H1 g1)
/-! ### dicts with ints as keys -/
/-- key in d, key not in d -/
theorem et_kin {r : Addr} {kvs : List (Key × V)} {x : Int} (hu : C.A.units + 1 < cLine) (ha : EX B C a σ H (.ref r)) (hr : H r = some (.dK kvs)) (hb : EV B C b σ H (.int x)) (hm : behindInMarks .In a = false := by rfl) : ET B C (.Compare b [.In] [a] pos) σ H (valV kvs (Sum.inl x)).isSome := fun H1 g Q q =>
  of_pt (pt_cmp (pc_din hu pe_S pe_S) hm) (hb H1 g _ fun u H2 g2 hk => ha H2 (g.trans g2) _ fun v H3 g3 e => by
    subst e
    rw [hk.int_eq]
    exact ⟨r, _, rfl, .k (k := Sum.inl x) ((g.trans (g2.trans g3)).keep _ _ hr fun ps z => by cases z), _, rfl, q H3 (g2.trans g3)⟩)
theorem et_knotin {r : Addr} {kvs : List (Key × V)} {x : Int} (hu : C.A.units + 1 < cLine) (ha : EX B C a σ H (.ref r)) (hr : H r = some (.dK kvs)) (hb : EV B C b σ H (.int x)) (hm : behindInMarks .NotIn a = false := by rfl) : ET B C (.Compare b [.NotIn] [a] pos) σ H (!(valV kvs (Sum.inl x)).isSome) := fun H1 g Q q =>
  of_pt (pt_cmp (pc_dnotin hu pe_S pe_S) hm) (hb H1 g _ fun u H2 g2 hk => ha H2 (g.trans g2) _ fun v H3 g3 e => by
    subst e
    rw [hk.int_eq]
    exact ⟨r, _, rfl, .k (k := Sum.inl x) ((g.trans (g2.trans g3)).keep _ _ hr fun ps z => by cases z), _, rfl, q H3 (g2.trans g3)⟩)
theorem ex_kget {r : Addr} {kvs : List (Key × V)} {x : Int} {w : V} (hu : C.A.units + 1 < cLine) (ha : EX B C a σ H (.ref r)) (hr : H r = some (.dK kvs)) (hb : EV B C b σ H (.int x)) (hv : valV kvs (Sum.inl x) = some w) (hs : NoSl b := by intro _ _; rfl) : EX B C (.Subscript a b pos) σ H w := fun H1 g Q q =>
  of_pe (pe_dget hu pe_S pe_S hs) (ha H1 g _ fun v H2 g2 e => by
    subst e
    exact hb H2 (g.trans g2) _ fun u H3 g3 hk => by
      rw [hk.int_eq]
      refine ⟨r, w, rfl, ?_, q w H3 (g2.trans g3) rfl⟩
      rw [← hv]
      exact .k (k := Sum.inl x) ((g.trans (g2.trans g3)).keep _ _ hr fun ps z => by cases z))
/-- d[int] = e -/
theorem s_kput {r : Addr} {kvs : List (Key × V)} {x : Int} {w : V} {pos' : Pos} (hu : C.A.units + 1 < cLine) (tk : TK B H) (ho : EX B C o σ H (.ref r)) (hi : EV B C b σ H (.int x)) (hv : EX B C e σ H w) (hr : H r = some (.dK kvs)) (hn : kvs.length ≤ 1000)
    (k : ∀ H2, Gr B H H2 → D.nx σ (upd H2 r (.dK (putK kvs (Sum.inl x) w)))) (hs : swapsWith e (some (.Subscript o b pos')) pos.line C.env = pure false := by rfl) : sS C (.Assign [.Subscript o b pos'] e pos) D σ H :=
  of_ps (ps_dput hu pe_S pe_S pe_S hs) (hv.go tk fun v H2 g2 ev => ho H2 g2 _ fun u H3 g3 eu => hi H3 (g2.trans g3) _ fun y H4 g4 hk => by
    subst ev
    subst eu
    rw [hk.int_eq]
    have g := g2.trans (g3.trans g4)
    exact ⟨r, _, rfl, .k (k := Sum.inl x) (g.keep _ _ hr fun ps z => by cases z) (small1000 hn), k H4 g⟩)
/-- xs[-1] -/
theorem ex_last {l : Addr} {xs : List V} {w : V} {j : Nat} {p0 p1 : Pos} (ho : EX B C o σ H (.ref l)) (hl : H l = some (.lst (xs ++ [w]))) (hs : PlainIx (.UnaryOp .USub (.Constant (.int 1) j p0) p1) := by exact fun _ _ => rfl) : EX B C (.Subscript o (.UnaryOp .USub (.Constant (.int 1) j p0) p1) pos) σ H w := fun H1 g Q q =>
  of_pe (pe_ix ix_list pe_S (pe_un un_neg pe_int) hs) (ho H1 g _ fun v H2 g2 ev => by
    subst ev
    exact ⟨1, rfl, l, _, _, w, rfl, rfl, .inl (.inl ((g.trans g2).keep _ _ hl fun ps z => by cases z)), atI_last _ _, q w H2 g2 rfl⟩)
end
end K22
end
section
set_option Elab.async false
set_option linter.all false
set_option maxRecDepth 100000
set_option maxHeartbeats 4000000
/-! K22PipeA: __init__, lay, more_room, ways_from of the pipes. -/
namespace K22
open PySem PySem.Spec PyProof.Rows L2 NdefX Pm
section
variable {P : Program} {w : World} {K : PySem.W.Frag} {mg : Str → Option Value} {base : Heap} {Cp : Addr}
/-! ### __init__ -/
def spPInit (Cp : Addr) : Sp := fun vs H Q _ => ∃ (p dx : Addr) (m : Nat), vs = [.ref p, .int (m : Int)] ∧ H p = some (.ins Cp dx []) ∧
  ∀ (r g : Addr) (H' : Hp), H r = none → H g = none → PipeAt Cp H' p r g m [] (fun _ _ => 0) → (∀ b o, H b = some o → b ≠ p → H' b = some o) → Q .non H'
theorem scPI : FnScope ["self", "many"] ["self", "many"] (defScope sPInit) := ⟨rfl, rfl, rfl, by decide +kernel, rfl, by decide +kernel, by decide +kernel⟩
theorem ok_pinit {f : Addr} {fd : FuncData} (F : Fun K "__init__" "Pipes.__init__" sPInit f fd) (T : TxP K Cp) : FnOk P w K mg base CX0 1 f fd ["self", "many"] (spPInit Cp) := by
  refine F.ok scPI (fun vs H Q E h => ?_) (fun cdv A outer s H vs Q E hr h => ?_)
  · obtain ⟨p, dx, m, rfl, _⟩ := h
    rfl
  · obtain ⟨p, dx, m, rfl, hp, k⟩ := h
    refine ⟨_, pss_cons (ps_fld (pv 0) (pv 1) rfl) (pss_cons (ps_fld (pv 0) pe_dnewT rfl) (pss_one (ps_fld (pv 0) pe_dnewT rfl))), ?_⟩
    refine ⟨_, rfl, _, rfl, p, Cp, dx, [], rfl, hp, T.cl, T.nP, (by show 0 < 1000; decide), ?_⟩
    intro r hr
    have npr : p ≠ r := fun z => by rw [← z, upd_same] at hr; cases hr
    rw [upd_ne (Ne.symm npr)] at hr
    refine ⟨_, rfl, p, Cp, dx, _, rfl, (by rw [upd_ne npr, upd_same]), T.cl, T.nR, (by show 1 < 1000; decide), ?_⟩
    intro g hg
    have npg : p ≠ g := fun z => by rw [← z, upd_same] at hg; cases hg
    have nrg : r ≠ g := fun z => by rw [← z, upd_ne (Ne.symm npr), upd_same] at hg; cases hg
    rw [upd_ne (Ne.symm npg), upd_ne (Ne.symm nrg), upd_ne (Ne.symm npg)] at hg
    refine ⟨_, rfl, p, Cp, dx, _, rfl, (by rw [upd_ne npg, upd_same]), T.cl, T.nG, (by show 2 < 1000; decide), ?_⟩
    refine k r g _ hr hg ⟨⟨dx, upd_same⟩, ⟨⟨[], ?_, Nat.zero_le _, fun x y => rfl⟩⟩, ⟨⟨[], ?_, Nat.zero_le _, fun x y => rfl⟩⟩, nrg⟩ fun b o e hb => ?_
    · rw [upd_ne (Ne.symm npr), upd_ne nrg, upd_ne (Ne.symm npr), upd_same]
    · rw [upd_ne (Ne.symm npg), upd_same]
    · rw [upd_ne hb, upd_ne (ne_of_none e hg), upd_ne hb, upd_ne (ne_of_none e hr), upd_ne hb]
      exact e
/-! ### lay -/
def spLay (Cp : Addr) : Sp := fun vs H Q _ => ∃ (B : Amb) (p r g : Addr) (m : Nat) (ops : List Op) (x y c : Int), vs = [.ref p, .int x, .int y, .int c] ∧ TK B H ∧ 0 ≤ c ∧ PipeAt Cp H p r g m ops (fun _ _ => 0) ∧ ops.length ≤ 300 ∧
  ∀ H', Gw B [r, g] H H' → PipeAt Cp H' p r g m (ops ++ [(x, y, c)]) (fun _ _ => 0) → Q .non H'
theorem scLay : FnScope ["self", "one", "other", "room"] ["self", "one", "other", "room"] (defScope sLay) := ⟨rfl, rfl, rfl, by decide +kernel, rfl, by decide +kernel, by decide +kernel⟩
theorem m2_of {X : Cx} {o a b : Expr} {m : Str} {apos cpos : Pos} (h1 : attributeBase o m X.env (eval o X.env) = eval o X.env) (h2 : ((backTo cpos (starEach [a, b] X.env)).all (fun x => !x.1) && (backToKw cpos (keywordEach [] X.env)).all (fun x => x.1.isSome)
    && decide (([a, b] : List Expr).length + ([] : List Keyword).length + (if ([] : List Keyword).isEmpty then 0 else 1) < 30)) = true) (h3 : (apos.endLine == cpos.line) = true) (h4 : backTo cpos (starEach [a, b] X.env) = [(false, eval a X.env), (false, eval b X.env)]) : M2 X o m apos a b cpos := ⟨h1, h2, h3, h4⟩
theorem ok_lay {f : Addr} {fd : FuncData} (F : Fun K "lay" "Pipes.lay" sLay f fd) (T : TxP K Cp) : FnOk P w K mg base CX0 1 f fd ["self", "one", "other", "room"] (spLay Cp) := by
  refine F.ok scLay (fun vs H Q E h => ?_) (fun cdv A outer s H vs Q E hr h => ?_)
  · obtain ⟨B, p, r, g, m, ops, x, y, c, rfl, _⟩ := h
    rfl
  · obtain ⟨B, p, r, g, m, ops, x, y, c, rfl, tk, hc, PA, hl, k⟩ := h
    have hu := hu_of hr
    refine ⟨_, pss_S, ?_⟩
    refine ss_cons (s_if ((et_cmp co_lt (ex_var 3).int ev_int).go tk fun H1 g1 => ⟨fun z => ?_, fun _ => ss_nil ?_⟩))
    · have := of_decide_eq_true z
      omega
    obtain ⟨⟨dx, e1⟩, d1, d2, ne⟩ := PA.mono g1
    have npr : p ∉ [r] := fun z => by
      obtain ⟨kvs, e, _⟩ := d1.ex
      rw [List.mem_singleton.mp z, e] at e1; cases e1
    have npg : p ∉ [g] := fun z => by
      obtain ⟨kvs, e, _⟩ := d2.ex
      rw [List.mem_singleton.mp z, e] at e1; cases e1
    -- self.room[one, other] = self.room.get((one, other), 0) + room
    obtain ⟨kvs, er, hlr, hq⟩ := d1.ex
    have hget : (((if touch ops x y = true then some (V.int (cap ops x y)) else none) : Option V).getD (.int 0)) = .int (cap ops x y) := by
      by_cases h : touch ops x y = true
      · rw [if_pos h]; rfl
      · rw [if_neg h, cap_untouched (by simpa using h)]; rfl
    have tk1 := g1.tk
    refine ss_cons (s_dput (B := B) (z := cap ops x y + c) hu tk1 (ex_fld (ex_var 0) e1 T.cl T.nR (pfl_r _ _ _)) (ek (ex_var 1).int (ex_var 2).int) (ev_add (EX.int ?_) (ex_var 3).int) d1 (by omega) fun H2 w2 d12 => ?_)
    · exact EX.to (ex_dgetd hu (ex_fld (ex_var 0) e1 T.cl T.nR (pfl_r _ _ _)) er (ek (ex_var 1).int (ex_var 2).int) (ex_int (ev_int (n := 0))) (m2_of rfl rfl rfl rfl)) (by rw [hq, hget])
    have e2 := w2.at e1 (fun ps z => by cases z) npr
    have d22 := d2.w w2 (fun z => ne (List.mem_singleton.mp z).symm)
    -- self.going.setdefault((one, other), 0)
    refine ss_cons (s_dsetd (B := B) (z := 0) hu w2.tk (ex_fld (ex_var 0) e2 T.cl T.nG (pfl_g _ _ _)) (ek (ex_var 1).int (ex_var 2).int) ev_int d22 (by omega) (fun H3 w3 d23 => ?_) (m2_of rfl rfl rfl rfl))
    have e3 := w3.at e2 (fun ps z => by cases z) npg
    have d13 := d12.w w3 (fun z => ne (List.mem_singleton.mp z))
    -- self.room.setdefault((other, one), 0)
    refine ss_cons (s_dsetd (B := B) (z := 0) hu w3.tk (ex_fld (ex_var 0) e3 T.cl T.nR (pfl_r _ _ _)) (ek (ex_var 2).int (ex_var 1).int) ev_int d13 (by omega) (fun H4 w4 d14 => ?_) (m2_of rfl rfl rfl rfl))
    have e4 := w4.at e3 (fun ps z => by cases z) npr
    have d24 := d23.w w4 (fun z => ne (List.mem_singleton.mp z).symm)
    -- self.going.setdefault((other, one), 0)
    refine ss_cons (s_dsetd (B := B) (z := 0) hu w4.tk (ex_fld (ex_var 0) e4 T.cl T.nG (pfl_g _ _ _)) (ek (ex_var 2).int (ex_var 1).int) ev_int d24 (by omega) (fun H5 w5 d25 => ss_nil ?_) (m2_of rfl rfl rfl rfl))
    have e5 := w5.at e4 (fun ps z => by cases z) npg
    have d15 := d14.w w5 (fun z => ne (List.mem_singleton.mp z))
    have hlen : (ops ++ [(x, y, c)]).length = ops.length + 1 := by simp
    have hr1 : ∀ a ∈ [r], a ∈ [r, g] := fun a h => by simp at h ⊢; exact .inl h
    have hg1 : ∀ a ∈ [g], a ∈ [r, g] := fun a h => by simp at h ⊢; exact .inr h
    refine k H5 (g1.w.trans ((w2.more hr1).trans ((w3.more hg1).trans ((w4.more hr1).trans (w5.more hg1))))) ⟨⟨dx, e5⟩, d15.to (by omega) (fun x' y' => ?_) (fun x' y' h => ?_), d25.to (by omega) (fun x' y' => ?_) (fun x' y' h => ?_), ne⟩
    · rw [touch_snoc, Bool.eq_iff_iff]
      simp only [Bool.or_eq_true, Bool.and_eq_true, decide_eq_true_eq]
      constructor
      · rintro ((h | ⟨rfl, rfl⟩) | ⟨rfl, rfl⟩)
        · exact .inl h
        · exact .inr (.inl ⟨rfl, rfl⟩)
        · exact .inr (.inr ⟨rfl, rfl⟩)
      · rintro (h | ⟨rfl, rfl⟩ | ⟨rfl, rfl⟩)
        · exact .inl (.inl h)
        · exact .inl (.inr ⟨rfl, rfl⟩)
        · exact .inr ⟨rfl, rfl⟩
    · rw [cap_snoc]
      by_cases h1 : x' = x ∧ y' = y
      · obtain ⟨rfl, rfl⟩ := h1
        simp
      · have h2 : ¬ (x = x' ∧ y = y') := fun z => h1 ⟨z.1.symm, z.2.symm⟩
        simp only [if_neg h1, if_neg h2, Int.add_zero]
        by_cases h3 : (touch ops x' y' || (decide (x' = x) && decide (y' = y))) = true
        · rw [if_pos h3]
        · rw [if_neg h3]
          have h4 : touch ops x' y' = false := by
            rw [Bool.or_eq_true] at h3
            simpa using fun z => h3 (.inl z)
          rw [cap_untouched h4]
          split <;> rfl
    · rw [touch_snoc, Bool.eq_iff_iff]
      simp only [Bool.or_eq_true, Bool.and_eq_true, decide_eq_true_eq]
      constructor
      · rintro ((h | ⟨rfl, rfl⟩) | ⟨rfl, rfl⟩)
        · exact .inl h
        · exact .inr (.inl ⟨rfl, rfl⟩)
        · exact .inr (.inr ⟨rfl, rfl⟩)
      · rintro (h | ⟨rfl, rfl⟩ | ⟨rfl, rfl⟩)
        · exact .inl (.inl h)
        · exact .inl (.inr ⟨rfl, rfl⟩)
        · exact .inr ⟨rfl, rfl⟩
    · simp
/-! ### more_room -/
def spMore (Cp : Addr) : Sp := fun vs H Q _ => ∃ (B : Amb) (p r g : Addr) (m : Nat) (ops : List Op) (gf : Int → Int → Int) (x y : Int), vs = [.ref p, .int x, .int y] ∧ TK B H ∧ PipeAt Cp H p r g m ops gf ∧ touch ops x y = true ∧
  ∀ H', Gr B H H' → Q (.int (cap ops x y - gf x y)) H'
theorem scMore : FnScope ["self", "one", "other"] ["self", "one", "other"] (defScope sMore) := ⟨rfl, rfl, rfl, by decide +kernel, rfl, by decide +kernel, by decide +kernel⟩
theorem ok_more {f : Addr} {fd : FuncData} (F : Fun K "more_room" "Pipes.more_room" sMore f fd) (T : TxP K Cp) : FnOk P w K mg base CX0 1 f fd ["self", "one", "other"] (spMore Cp) := by
  refine F.ok scMore (fun vs H Q E h => ?_) (fun cdv A outer s H vs Q E hr h => ?_)
  · obtain ⟨B, p, r, g, m, ops, gf, x, y, rfl, _⟩ := h
    rfl
  · obtain ⟨B, p, r, g, m, ops, gf, x, y, rfl, tk, ⟨⟨dx, e1⟩, d1, d2, ne⟩, ht, k⟩ := h
    have hu := hu_of hr
    obtain ⟨kr, er, _, hqr⟩ := d1.ex
    obtain ⟨kg, eg, _, hqg⟩ := d2.ex
    refine ⟨_, pss_S, ?_⟩
    have v1 := hqr x y
    have v2 := hqg x y
    rw [if_pos ht] at v1 v2
    refine ss_cons (s_ret ((ev_sub (ex_dget hu (ex_fld (ex_var 0) e1 T.cl T.nR (pfl_r _ _ _)) er (ek (ex_var 1).int (ex_var 2).int) v1).int (ex_dget hu (ex_fld (ex_var 0) e1 T.cl T.nG (pfl_g _ _ _)) eg (ek (ex_var 1).int (ex_var 2).int) v2).int).go tk fun v H2 g2 hv => ?_))
    rw [hv.int_eq]
    exact k H2 g2
/-! ### ways_from -/
def nexts (m : Nat) (ops : List Op) (gf : Int → Int → Int) (x : Int) : List Int := (places m).filter fun y => decide (more ops gf x y)
def spFrom (Cp : Addr) : Sp := fun vs H Q _ => ∃ (B : Amb) (p r g : Addr) (m : Nat) (ops : List Op) (gf : Int → Int → Int) (x : Int), vs = [.ref p, .int x] ∧ TK B H ∧ PipeAt Cp H p r g m ops gf ∧ m ≤ 1000 ∧
  ∀ v H', Gr B H H' → Is B.X H' v (.list (iD (nexts m ops gf x))) → Q v H'
theorem scFrom : FnScope ["self", "one", "other"] ["self", "one"] (defScope sFrom) := ⟨rfl, rfl, rfl, by decide +kernel, rfl, by decide +kernel, by decide +kernel⟩
theorem rangeD_places (n : Nat) : rangeD n = iD (places n) := by
  unfold rangeD iD places
  rw [List.map_map]
  rfl
theorem filterMap_if {α β : Type} (p : α → Bool) (f : α → β) : ∀ l : List α, l.filterMap (fun a => if p a = true then some (f a) else none) = (l.filter p).map f
  | [] => rfl
  | a :: l => by
    rw [List.filterMap_cons, List.filter_cons]
    by_cases h : p a = true
    · rw [if_pos h, if_pos h, List.map_cons, filterMap_if p f l]
    · rw [if_neg h, if_neg h, filterMap_if p f l]
/-- the ints of which p holds -/
def oI (p : Int → Bool) : PyData → Option PyData
  | .int i => if p i = true then some (.int i) else none
  | _ => none
theorem oI_lf {p : Int → Bool} {i : Int} {d : PyData} (h : oI p (.int i) = some d) : LF d := by
  have h : (if p i = true then some (PyData.int i) else none) = some d := h
  by_cases hp : p i = true
  · rw [if_pos hp] at h; cases h; exact .int i
  · rw [if_neg hp] at h; cases h
theorem filterMap_ints (p : Int → Bool) (ks : List Int) : (iD ks).filterMap (oI p) = iD (ks.filter p) := by
  unfold iD
  rw [List.filterMap_map]
  exact filterMap_if p PyData.int ks
theorem ok_from {f fM : Addr} {fd fdM : FuncData} (F : Fun K "ways_from" "Pipes.ways_from" sFrom f fd) (T : TxP K Cp) (zr : mg "range" = none) (FM : Fun K "more_room" "Pipes.more_room" sMore fM fdM) (bM : Binds K fdM ["self", "one", "other"] []) (mM : Meth K Cp "more_room" fM) : FnOk P w K mg base CX0 2 f fd ["self", "one"] (spFrom Cp) := by
  have GM : FnOk P w K mg base CX0 1 fM fdM ["self", "one", "other"] (spMore Cp) := ok_more FM T
  refine F.ok scFrom (fun vs H Q E h => ?_) (fun cdv A outer s H vs Q E hr h => ?_)
  · obtain ⟨B, p, r, g, m, ops, gf, x, rfl, _⟩ := h
    rfl
  · obtain ⟨B, p, r, g, m, ops, gf, x, rfl, tk, PA, hm, k⟩ := h
    have hu := hu_of hr
    refine ⟨_, pss_S, ?_⟩
    obtain ⟨⟨dx, e1⟩, d1, d2, ne⟩ := id PA
    refine ss_cons (s_ret (EV.go (B := B) (d := .list (iD (nexts m ops gf x))) tk (EV.to (ev_lc (own := [("other", 2)]) (pat := .nm 2) (xs := rangeD m) (outs := oI fun i => decide (more ops gf x i))
      (ei_range rfl zr (ex_fld (ex_var 0) e1 T.cl T.nP (pfl_p _ _ _)).int (by omega)) (by rw [rangeD_places]; unfold iD places; rw [List.length_map, List.length_map, List.length_range]; omega) rfl scFrom.nd (blk_by (N := ["self", "one", "other"]) (sc := defScope sFrom) (by decide +kernel))
      (eg_nm ?_) (fun d hd => True.intro) ?_ ?_) ?_) fun v H2 g2 hv => k v H2 g2 hv))
    · rintro C' ⟨s', H', c, cl, fp, rfl⟩
      exact pg_name scFrom.nd rfl (.inl rfl)
    · intro d hd d' hd'
      rw [rangeD_places] at hd
      obtain ⟨i, _, rfl⟩ := List.mem_map.mp hd
      exact oI_lf hd'
    · intro d hd H3 σ2 g3 hput
      rw [rangeD_places] at hd
      obtain ⟨i, _, rfl⟩ := List.mem_map.mp hd
      obtain ⟨v, rfl, hv⟩ := hput
      rw [hv.int_eq]
      refine ⟨rfl, item_if (fun C' hC' => ?_) fun hb C' hC' => ?_⟩
      · obtain ⟨s', H', c, cl, fp, rfl⟩ := hC'
        obtain ⟨⟨dx3, e3⟩, d13, d23, _⟩ := PA.mono g3
        obtain ⟨kr, er, _, hqr⟩ := d13.ex
        refine ET.to (et_and (ev_din hu (ex_fld (ex_var 0) e3 T.cl T.nR (pfl_r _ _ _)) er (ek (ex_var 1).int (ex_var 2).int)) fun hin => et_cmp (co_gt (n := cap ops x i - gf x i) (m := 0)) (EVP.int ?_) ev_int) ?_
        · have ht : touch ops x i = true := by
            rw [hqr] at hin
            by_cases h : touch ops x i = true
            · exact h
            · rw [if_neg h] at hin; cases hin
          exact evp_meth GM hr bM pass0 T.cl mM (ex_var 0) e3 (pfl_no _ _ _ (by decide +kernel) (by decide +kernel) (by decide +kernel)) (eap_x (ex_var 1) (eap_x (ex_var 2) eap_nil)) fun H4 vs Q g4 hvs q => by
            obtain ⟨ws, rfl, ws2, rfl, rfl⟩ := hvs
            exact ⟨B, p, r, g, m, ops, gf, x, i, rfl, g4.tk, PA.mono (g3.trans g4), ht, fun H5 g5 => q _ H5 g5 rfl⟩
        · rw [hqr]
          unfold more
          by_cases h : touch ops x i = true
          · simp [h]
          · simp [h]
      · obtain ⟨s', H', c, cl, fp, rfl⟩ := hC'
        exact (ex_var 2).int
    · rw [rangeD_places, filterMap_ints]
      rfl
end
end K22
end
section
set_option Elab.async false
set_option linter.all false
set_option maxRecDepth 100000
set_option maxHeartbeats 4000000
/-! K22Zip: list(zip(a, b)), a and b lists. -/
namespace K22
open PySem PySem.Spec PyProof.Rows L2 NdefX
abbrev IsZipO (h : Heap) (z TI TO T : Addr) (f : Bool) : Prop :=
  h.get? z = some { cls := .type "zip", dict := none, data := .fields #[rawInt T, .bool f, .bool false, .ref TI, .ref TO], slots := #[] }
section
variable {prog : Program} {w : World} {A : Around} {E : Value → Shared → Prop} {s : Shared}
theorem zip_free_no {z TI TO T : Addr} {f : Bool} {oT : Obj} {Q : Bool → Shared → Prop} (hz : IsZipO s.heap z TI TO T f) (hT : s.heap.get? T = some oT)
    (hQ : ∀ h', IsZipO h' z TI TO T true → Heap.SameBut z s.heap h' → Q false { s with heap := h' }) : wpAny (model prog w) A (Builtin.SmallTypes.ownedTupleIsFree (.ref z)) Q E s := by
  unfold Builtin.SmallTypes.ownedTupleIsFree
  refine wpAny_bind (wpAny_field hz rfl (x := rawInt T) rfl ?_)
  show wpAny _ _ (loadIfAlive ((T : Int).toNat) >>= _) _ _ _
  rw [Int.toNat_natCast]
  refine wpAny_bind (PySem.W.kdx_alive hT ?_)
  simp only [Option.isNone_some, Bool.false_eq_true, if_false]
  refine wpAny_bind (wpAny_field hz rfl (x := .bool f) rfl ?_)
  cases f with
  | true =>
    rw [if_neg (show ¬ ((Value.bool true != Value.bool true) = true) from Bool.false_ne_true)]
    exact wpAny_pure (hQ _ hz (Heap.SameBut.refl _ _))
  | false =>
    rw [if_pos (show (Value.bool false != Value.bool true) = true from rfl)]
    refine wpAny_bind (wpAny_setField_rec hz (by simp) fun h₃ he₃ hs₃ => wpAny_pure (hQ h₃ he₃ hs₃))
theorem zipO_item {z TI TO i1 i2 l1 l2 T : Addr} {f : Bool} {oT : Obj} {k : Nat} {xs ys : Array Value} {x y : Value} {Q : Value → Shared → Prop} (D : ZipApart z TI TO i1 i2 l1 l2) (hz : IsZipO s.heap z TI TO T f) (hT : s.heap.get? T = some oT) (hTI : IsPair s.heap TI (.ref i1) (.ref i2))
    (h1 : s.heap.IsListIter i1 l1 k) (h2 : s.heap.IsListIter i2 l2 k) (hl1 : s.heap.IsList l1 xs) (hl2 : s.heap.IsList l2 ys) (hx : xs[k]? = some x) (hy : ys[k]? = some y)
    (hQ : ∀ h', IsZipO h' z TI TO T true → h'.IsListIter i1 l1 (k + 1) → h'.IsListIter i2 l2 (k + 1) → IsPair h' s.heap.objs.size x y → h'.objs.size = s.heap.objs.size + 1 →
      (∀ c o, c ≠ z → c ≠ i1 → c ≠ i2 → s.heap.get? c = some o → h'.get? c = some o) → Q (.ref s.heap.objs.size) { s with heap := h' }) :
    wpAny (model prog w) A (Builtin.«zip.__next__» ⟨[.ref z], []⟩) (fun fin s' => ∃ v, fin = .done (.ret v) ∧ Q v s') E s := by
  show wpAny _ _ (field (.ref z) 2 >>= _) _ _ _
  refine wpAny_bind (wpAny_field hz rfl (x := .bool false) rfl ?_)
  show wpAny _ _ (field (.ref z) 3 >>= _) _ _ _
  refine wpAny_bind (wpAny_field hz rfl (x := .ref TI) rfl ?_)
  refine wpAny_bind (wpAny_seqItems hTI rfl ?_)
  show wpAny _ _ (Builtin.SmallTypes.ownedTupleIsFree (.ref z) >>= _) _ _ _
  refine wpAny_bind (zip_free_no hz hT fun h₁ hz₁ hs₁ => ?_)
  simp only [Bool.false_eq_true, if_false]
  refine wpAny_bind ?_
  simp only [List.forIn_toArray, List.forIn_cons, List.forIn_nil]
  refine wpAny_bind (wpAny_bind (wpAny_holding ?_))
  show wpAny _ _ (Builtin.SmallTypes.nextOf (.ref i1) >>= _) _ _ _
  refine wpAny_bind (wpAny_nextOf_list_item (h1.extBut hs₁.extBut D.i1z) (hl1.extBut hs₁.extBut D.l1z) hx fun h₂ h1₂ hs₂ => wpAny_pure (wpAny_pure ?_))
  refine wpAny_bind (wpAny_bind (wpAny_holding ?_))
  show wpAny _ _ (Builtin.SmallTypes.nextOf (.ref i2) >>= _) _ _ _
  refine wpAny_bind (wpAny_nextOf_list_item ((h2.extBut hs₁.extBut D.i2z).extBut hs₂.extBut D.i12.symm) ((hl2.extBut hs₁.extBut D.l2z).extBut hs₂.extBut D.l2i1) hy fun h₄ h2₄ hs₄ => wpAny_pure (wpAny_pure (wpAny_pure ?_)))
  refine wpAny_bind (wpAny_newTuple ?_ (by show 2 ≤ sizeLine; decide))
  refine wpAny_pure ⟨_, rfl, ?_⟩
  have hsz : h₄.objs.size = s.heap.objs.size := by rw [hs₄.1, hs₂.1, hs₁.1]
  show Q (.ref h₄.objs.size) _
  rw [hsz]
  have up : ∀ c o, h₄.get? c = some o → (h₄.push { cls := .type "tuple", data := .seq #[x, y] }).get? c = some o := fun c o e => Heap.get?_push_of_some _ e
  have hz₄ : IsZipO h₄ z TI TO T true := hs₄.extBut _ _ D.i2z.symm (hs₂.extBut _ _ D.i1z.symm hz₁)
  refine hQ _ (up _ _ hz₄) ((h1₂.extBut hs₄.extBut D.i12).at fun o e => up _ o e) (h2₄.at fun o e => up _ o e) ?_ ?_ fun c o c1 c3 c4 e => up c o (hs₄.extBut _ _ c4 (hs₂.extBut _ _ c3 (hs₁.extBut _ _ c1 e)))
  · rw [← hsz]
    exact Heap.get?_push_size _ rfl
  · rw [Heap.size_push, hsz]
theorem zipO_end {z TI TO i1 i2 l1 l2 T : Addr} {f : Bool} {oT : Obj} {k : Nat} {xs ys : Array Value} {Q : Fin → Shared → Prop} (hh : A.handled = none) (D : ZipApart z TI TO i1 i2 l1 l2) (hz : IsZipO s.heap z TI TO T f) (hT : s.heap.get? T = some oT) (hTI : IsPair s.heap TI (.ref i1) (.ref i2))
    (h1 : s.heap.IsListIter i1 l1 k) (h2 : s.heap.IsListIter i2 l2 k) (hl1 : s.heap.IsList l1 xs) (hl2 : s.heap.IsList l2 ys) (hend : xs[k]? = none ∨ ys[k]? = none)
    (hE : ∀ h' e, (∀ c o, c ≠ z → c ≠ i1 → c ≠ i2 → s.heap.get? c = some o → h'.get? c = some o) → (∃ o, h'.get? e = some o ∧ o.cls = .type "StopIteration") → E (.ref e) { s with heap := h' }) :
    wpAny (model prog w) A (Builtin.«zip.__next__» ⟨[.ref z], []⟩) Q E s := by
  show wpAny _ _ (field (.ref z) 2 >>= _) _ _ _
  refine wpAny_bind (wpAny_field hz rfl (x := .bool false) rfl ?_)
  show wpAny _ _ (field (.ref z) 3 >>= _) _ _ _
  refine wpAny_bind (wpAny_field hz rfl (x := .ref TI) rfl ?_)
  refine wpAny_bind (wpAny_seqItems hTI rfl ?_)
  show wpAny _ _ (Builtin.SmallTypes.ownedTupleIsFree (.ref z) >>= _) _ _ _
  refine wpAny_bind (zip_free_no hz hT fun h₁ hz₁ hs₁ => ?_)
  simp only [Bool.false_eq_true, if_false]
  refine wpAny_bind ?_
  simp only [List.forIn_toArray, List.forIn_cons, List.forIn_nil]
  refine wpAny_bind (wpAny_bind (wpAny_holding ?_))
  show wpAny _ _ (Builtin.SmallTypes.nextOf (.ref i1) >>= _) _ _ _
  cases hx : xs[k]? with
  | none =>
    refine wpAny_bind (wpAny_nextOf_list_end hh (h1.extBut hs₁.extBut D.i1z) (hl1.extBut hs₁.extBut D.l1z) hx fun h₂ e hs₂ he => ?_)
    exact hE h₂ e (fun c o c1 c3 c4 x => hs₂ _ _ c3 (hs₁.extBut _ _ c1 x)) he
  | some x =>
    have hy : ys[k]? = none := by rcases hend with h | h; rw [hx] at h; cases h; exact h
    refine wpAny_bind (wpAny_nextOf_list_item (h1.extBut hs₁.extBut D.i1z) (hl1.extBut hs₁.extBut D.l1z) hx fun h₂ h1₂ hs₂ => wpAny_pure (wpAny_pure ?_))
    refine wpAny_bind (wpAny_bind (wpAny_holding ?_))
    show wpAny _ _ (Builtin.SmallTypes.nextOf (.ref i2) >>= _) _ _ _
    refine wpAny_bind (wpAny_nextOf_list_end hh ((h2.extBut hs₁.extBut D.i2z).extBut hs₂.extBut D.i12.symm) ((hl2.extBut hs₁.extBut D.l2z).extBut hs₂.extBut D.l2i1) hy fun h₄ e hs₄ he => ?_)
    exact hE h₄ e (fun c o c1 c3 c4 x => hs₄ _ _ c4 (hs₂.extBut _ _ c3 (hs₁.extBut _ _ c1 x))) he
/-! ### list(an iterator): S is the new list -/
theorem list_init_by {T : String} {I S : Addr} {R : Result → Shared → Prop} (hT : s.TypeIs (.ref I) T) (nl : (Value.type T == Value.type "list") = false) (nt : (Value.type T == Value.type "tuple") = false) (hSI : S ≠ I)
    (self : ∀ (s' : Shared) (Q : Value → Shared → Prop) (E : Value → Shared → Prop), (∀ o, s.heap.get? I = some o → s'.heap.get? I = some o) → Q (.ref I) s' → wpAny (model prog w) A.in1 (pyIter (.ref I)) Q E s')
    (hint : ∀ (s' : Shared) (Q : Bool → Shared → Prop) (E : Value → Shared → Prop), (∀ o, s.heap.get? I = some o → s'.heap.get? I = some o) → (∀ b, Q b s') → wpAny (model prog w) A.in1 (Builtin.List.listLengthHint (.ref I)) Q E s')
    (hS : s.heap.get? S = some { cls := .type "list", data := .seq #[] })
    (key : ∀ (h : Heap) (c tk : Nat), (∀ b o, b ≠ S → s.heap.get? b = some o → h.get? b = some o) → h.get? S = some { cls := .type "list", data := .seq #[] c } → h.objs.size = s.heap.objs.size → codeAny (model prog w) A (.builtin "list.extend.loop" ⟨[.ref S, .ref I, .none], []⟩) R { s with heap := h, toks := tk }) :
    wpAny (model prog w) A.in1 (Builtin.«list.__init__» ⟨[.ref S, .ref I], []⟩)
      (fun fin s' => match fin with | .done f => R (.ok f) s' | .again c' => c'.quiet = true ∧ codeAny (model prog w) A c' R s') (fun e s' => R (.error e) s') s := by
  show wpAny _ _ (do let old ← Builtin.List.listItems (.ref S); Builtin.List.listUpdate (.ref S) (fun _ => #[]); letGo old.toList.reverse; Builtin.List.listExtendWith (.ref S) (.ref I) .none) _ _ s
  refine wpAny_bind ?_
  unfold Builtin.List.listItems
  refine wpAny_bind (wpAny_seqItems hS rfl (wpAny_pure ?_))
  show wpAny _ _ (updateSeq S (fun _ => #[]) >>= fun _ => letGo (#[] : Array Value).toList.reverse >>= fun _ => Builtin.List.listExtendWith (.ref S) (.ref I) .none) _ _ s
  refine wpAny_bind (wpAny_updateSeq hS rfl ?_)
  have hS₁ := Heap.get?_update_self (Obj.mapSeq (fun _ => (#[] : Array Value))) hS rfl
  have oth : ∀ b o, b ≠ S → s.heap.get? b = some o → (s.heap.update S (Obj.mapSeq (fun _ => (#[] : Array Value)))).get? b = some o :=
    fun b o hb e => (Heap.get?_update_other _ _ (Ne.symm hb)).trans e
  have sz0 : (s.heap.update S (Obj.mapSeq (fun _ => (#[] : Array Value)))).objs.size = s.heap.objs.size := (Heap.SameBut.update ..).1
  refine wpAny_bind (wpAny_letGo ?_)
  unfold Builtin.List.listExtendWith
  have hT1 : Shared.TypeIs { s with heap := s.heap.update S (Obj.mapSeq (fun _ => (#[] : Array Value))) } (.ref I) T := by
    obtain ⟨o, ho, hc⟩ := hT
    exact ⟨o, oth _ _ (Ne.symm hSI) ho, hc⟩
  refine wpAny_bind (wpAny_typeOf (T := T) hT1 ?_)
  have h1 : Builtin.List.listSameRef (.ref S) (.ref I) = false := by simp [Builtin.List.listSameRef, hSI]
  simp only [h1, nl, nt, Bool.or_false, Bool.false_eq_true, if_false]
  refine wpAny_bind (self _ _ _ (fun o e => oth I o (Ne.symm hSI) e) ?_)
  refine wpAny_bind (wpAny_holding (hint _ _ _ (fun o e => oth I o (Ne.symm hSI) e) fun b => ?_))
  refine wpAny_ite_split (fun _ => ?_) (fun _ => wpAny_pure ⟨plainId_quiet PySem.F.plain_extend_loop _, key _ _ _ oth hS₁ sz0⟩)
  refine wpAny_bind (wpAny_rule ?_)
  refine wpAny_bind ?_
  show wpAny _ _ (updateSeq S (·.push .none) >>= fun _ => updateSeq S (·.pop)) _ _ _
  refine wpAny_bind (wpAny_updateSeq hS₁ rfl ?_)
  have hS₂ := Heap.get?_update_self (Obj.mapSeq (·.push Value.none)) hS₁ rfl
  refine wpAny_updateSeq (hz := by seq_fits) hS₂ rfl ?_
  have hS₃ := Heap.get?_update_self (Obj.mapSeq (·.pop)) hS₂ rfl
  refine wpAny_pure ⟨plainId_quiet PySem.F.plain_extend_loop _, key _ _ _ (fun b o hb e => ?_) hS₃ ?_⟩
  · exact (Heap.get?_update_other _ _ (Ne.symm hb)).trans ((Heap.get?_update_other _ _ (Ne.symm hb)).trans (oth b o hb e))
  · exact ((Heap.SameBut.update ..).1.trans (Heap.SameBut.update ..).1).trans sz0
theorem call_list_by {T : String} {I : Addr} {Q : Value → Shared → Prop} (hT : s.TypeIs (.ref I) T) (nl : (Value.type T == Value.type "list") = false) (nt : (Value.type T == Value.type "tuple") = false)
    (self : ∀ (A : Around) (s' : Shared) (Q : Value → Shared → Prop) (E : Value → Shared → Prop), (∀ o, s.heap.get? I = some o → s'.heap.get? I = some o) → Q (.ref I) s' → wpAny (model prog w) A (pyIter (.ref I)) Q E s')
    (hint : ∀ (A : Around) (s' : Shared) (Q : Bool → Shared → Prop) (E : Value → Shared → Prop), (∀ o, s.heap.get? I = some o → s'.heap.get? I = some o) → (∀ b, Q b s') → wpAny (model prog w) A (Builtin.List.listLengthHint (.ref I)) Q E s')
    (key : ∀ (h : Heap) (c tk : Nat) (R : Result → Shared → Prop), (∀ b o, s.heap.get? b = some o → h.get? b = some o) → h.get? s.heap.objs.size = some { cls := .type "list", data := .seq #[] c } → h.objs.size = s.heap.objs.size + 1 →
      (∀ s', Q (.ref s.heap.objs.size) s' → R (.ok (.ret .none)) s') → codeAny (model prog w) A.in1 (.builtin "list.extend.loop" ⟨[.ref s.heap.objs.size, .ref I, .none], []⟩) R { s with heap := h, toks := tk }) :
    wpAny (model prog w) A (call (.type "list") [.ref I]) Q E s := by
  obtain ⟨oI, hoI, hcI⟩ := id hT
  have hSI : s.heap.objs.size ≠ I := Nat.ne_of_gt (Heap.lt_size hoI)
  refine callType_codes (Q₁ := fun obj s₁ => obj = .ref s.heap.objs.size ∧ s₁ = { s with heap := s.heap.push { cls := .type "list", data := .seq #[] } }) PySem.F.called_list (PySem.F.typeCall_list_1 _) PySem.F.entry_list_init
    (code_list_new _ ⟨rfl, rfl⟩) fun obj s₁ h₁ => ?_
  obtain ⟨rfl, rfl⟩ := h₁
  have hS : (s.heap.push { cls := .type "list", data := .seq #[] }).get? s.heap.objs.size = some { cls := .type "list", data := .seq #[] } := Heap.get?_push_size _ rfl
  refine ⟨⟨_, hS, rfl⟩, PySem.F.args_list_init_2 _ _, list_init_by (T := T) (A := A.in1) ⟨oI, Heap.get?_push_of_some _ hoI, hcI⟩ nl nt hSI (fun s' Q E e q => self _ s' Q E (fun o h => e o (Heap.get?_push_of_some _ h)) q) (fun s' Q E e q => hint _ s' Q E (fun o h => e o (Heap.get?_push_of_some _ h)) q) hS fun h c tk kp hS' hsz => ?_⟩
  exact key h c tk _ (fun b o e => kp b o (Nat.ne_of_lt (Heap.lt_size e)) (Heap.get?_push_of_some _ e)) hS' (by rw [hsz, Heap.size_push]) fun s' q => ⟨rfl, q⟩
/-! ### list(zip) -/
theorem zip_no_len : typeLookup (.type "zip") "__len__" = pure none := by rw [typeLookup_type, builtinLookup_eq_fast]; kernel_rfl
theorem zip_no_hint : typeLookup (.type "zip") "__length_hint__" = pure none := by rw [typeLookup_type, builtinLookup_eq_fast]; kernel_rfl
theorem zip_hint {z : Addr} {Q : Bool → Shared → Prop} (hT : s.TypeIs (.ref z) "zip") (h : ∀ b, Q b s) : wpAny (model prog w) A (Builtin.List.listLengthHint (.ref z)) Q E s := by
  unfold Builtin.List.listLengthHint
  refine wpAny_bind (wpAny_specialOf hT zip_no_len ?_)
  show wpAny _ A (specialOf (Value.ref z) (Str.ofString "__length_hint__") >>= _) _ _ _
  refine wpAny_bind (wpAny_specialOf hT zip_no_hint ?_)
  exact wpAny_pure (h true)
/-- the zip between two draws; S: the list that takes its tuples -/
def ZipSt (h : Heap) (z TI TO i1 i2 S : Addr) (k : Nat) (l1 l2 : Addr) : Prop :=
  (IsZip h z TI TO .none ∨ ∃ T f oT, IsZipO h z TI TO T f ∧ h.get? T = some oT ∧ T ≠ z ∧ T ≠ i1 ∧ T ≠ i2 ∧ T ≠ TO ∧ T ≠ S) ∧ IsPair h TI (.ref i1) (.ref i2) ∧ (∃ a b, IsPair h TO a b) ∧ h.IsListIter i1 l1 k ∧ h.IsListIter i2 l2 k
theorem ZipSt.typeIs {z TI TO i1 i2 S : Addr} {k : Nat} {l1 l2 : Addr} (h : ZipSt s.heap z TI TO i1 i2 S k l1 l2) : s.TypeIs (.ref z) "zip" := by
  rcases h.1 with e | ⟨T, f, oT, e, _⟩
  · exact ⟨_, e, rfl⟩
  · exact ⟨_, e, rfl⟩
theorem zip_draw {z TI TO i1 i2 l1 l2 S : Addr} {k : Nat} {xs ys : Array Value} {x y : Value} {Q : Option Value → Shared → Prop} (D : ZipApart z TI TO i1 i2 l1 l2) (st : ZipSt s.heap z TI TO i1 i2 S k l1 l2) (hl1 : s.heap.IsList l1 xs) (hl2 : s.heap.IsList l2 ys) (hx : xs[k]? = some x) (hy : ys[k]? = some y)
    (hS : S < s.heap.objs.size)
    (hQ : ∀ h', ZipSt h' z TI TO i1 i2 S (k + 1) l1 l2 → IsPair h' s.heap.objs.size x y → h'.objs.size = s.heap.objs.size + 1 → (∀ c o, c ≠ z → c ≠ TO → c ≠ i1 → c ≠ i2 → s.heap.get? c = some o → h'.get? c = some o) → Q (some (.ref s.heap.objs.size)) { s with heap := h' }) :
    wpAny (model prog w) A (pyNext (.ref z)) Q E s := by
  have hT := st.typeIs
  obtain ⟨hz, hTI, ⟨a, b, hTO⟩, h1, h2⟩ := st
  have lt : ∀ {c : Addr} {o : Obj}, s.heap.get? c = some o → s.heap.objs.size ≠ c := fun e => Nat.ne_of_gt (Heap.lt_size e)
  obtain ⟨o1, e1, _⟩ := id h1
  obtain ⟨o2, e2, _⟩ := id h2
  rcases hz with hz | ⟨T, f, oT, hz, hoT, t1, t2, t3, t4, t5⟩
  · refine wpAny_pyNext_zip_item D hz hTI hTO h1 h2 hl1 hl2 hx hy fun h' a1 a2 a3 a4 a5 a6 a7 => hQ h' ⟨.inr ⟨_, false, _, a1, a5, lt hz, lt e1, lt e2, lt hTO, Nat.ne_of_gt hS⟩, a7 _ _ D.TIz D.TITO D.TIi1 D.TIi2 hTI, ⟨_, _, a2⟩, a3, a4⟩ a5 a6 a7
  · unfold pyNext
    refine wpAny_bind (wpAny_attempt (wpAny_callSpecial?_slot (name := Str.ofString "__next__") hT PySem.F.slot_zip_next
      (wpAny_call_entry PySem.F.slot_zip_next hT PySem.F.entry_zip_next
        (zipO_item D hz hoT hTI h1 h2 hl1 hl2 hx hy fun h' a1 a3 a4 a5 a6 a7 => wpAny_pure (hQ h' ⟨.inr ⟨T, true, oT, a1, a7 _ _ t1 t2 t3 hoT, t1, t2, t3, t4, t5⟩, a7 _ _ D.TIz D.TIi1 D.TIi2 hTI, ⟨_, _, a7 _ _ D.TOz D.TOi1 D.TOi2 hTO⟩, a3, a4⟩ a5 a6 fun c o c1 _ c3 c4 e => a7 c o c1 c3 c4 e)) (PySem.F.args_zip_next_1 _))))
theorem zip_over {z TI TO i1 i2 l1 l2 S : Addr} {k : Nat} {xs ys : Array Value} {Q : Option Value → Shared → Prop} (hh : A.handled = none) (D : ZipApart z TI TO i1 i2 l1 l2) (st : ZipSt s.heap z TI TO i1 i2 S k l1 l2) (hl1 : s.heap.IsList l1 xs) (hl2 : s.heap.IsList l2 ys) (hend : xs[k]? = none ∨ ys[k]? = none)
    (hQ : ∀ h', (∀ c o, c ≠ z → c ≠ TO → c ≠ i1 → c ≠ i2 → s.heap.get? c = some o → h'.get? c = some o) → Q none { s with heap := h' }) :
    wpAny (model prog w) A (pyNext (.ref z)) Q E s := by
  have hT := st.typeIs
  obtain ⟨hz, hTI, ⟨a, b, hTO⟩, h1, h2⟩ := st
  rcases hz with hz | ⟨T, f, oT, hz, hoT, t1, t2, t3, t4, t5⟩
  · exact wpAny_pyNext_zip_end hh D hz hTI hTO h1 h2 hl1 hl2 hend hQ
  · unfold pyNext
    refine wpAny_bind (wpAny_attempt (wpAny_callSpecial?_slot (name := Str.ofString "__next__") hT PySem.F.slot_zip_next
      (wpAny_call_entry PySem.F.slot_zip_next hT PySem.F.entry_zip_next (zipO_end hh D hz hoT hTI h1 h2 hl1 hl2 hend fun h' e hk he => ?_) (PySem.F.args_zip_next_1 _))))
    obtain ⟨o, ho, hc⟩ := he
    refine wpAny_bind (wpAny_isInstance (T := "StopIteration") (b := true) ⟨o, ho, hc⟩ isSubtype_stop ?_)
    exact wpAny_pure (hQ _ fun c o c1 _ c3 c4 e => hk c o c1 c3 c4 e)
/-- the tuples that were made, above lo -/
structure Pairs (xs ys : Array Value) (lo : Addr) (h : Heap) (as : List Addr) : Prop where
  rise : as.Pairwise (· < ·)
  above : ∀ a ∈ as, lo ≤ a
  pairs : ∀ (j : Nat) (a : Addr), as[j]? = some a → ∃ x y, xs[j]? = some x ∧ ys[j]? = some y ∧ IsPair h a x y
theorem zip_loop {R : Result → Shared → Prop} {z TI TO i1 i2 l1 l2 S lo : Addr} {xs ys : Array Value} {n : Nat} {h₁ : Heap} (hh : A.handled = none) (D : ZipApart z TI TO i1 i2 l1 l2) (hne : S ≠ z ∧ S ≠ TO ∧ S ≠ i1 ∧ S ≠ i2 ∧ S ≠ TI ∧ S ≠ l1 ∧ S ≠ l2) (hlo : z < lo ∧ TO < lo ∧ i1 < lo ∧ i2 < lo ∧ S < lo) (hn : n ≤ sizeLine)
    (hx : ∀ i, i < n → ∃ x, xs[i]? = some x) (hy : ∀ i, i < n → ∃ y, ys[i]? = some y) (hend : xs[n]? = none ∨ ys[n]? = none)
    (hR : ∀ h' tk acc c as, (∀ b o, b ≠ S → b ≠ z → b ≠ TO → b ≠ i1 → b ≠ i2 → h₁.get? b = some o → h'.get? b = some o) → h'.get? S = some { cls := .type "list", dict := none, data := .seq acc c, slots := #[] } → as.length = n → Pairs xs ys lo h' as →
      acc.toList = as.map Value.ref → R (.ok (.ret .none)) { s with heap := h', toks := tk }) :
    ∀ (k i : Nat) (h : Heap) (tk c : Nat) (acc : Array Value) (as : List Addr), n - i = k → i ≤ n → ZipSt h z TI TO i1 i2 S i l1 l2 → h.IsList l1 xs → h.IsList l2 ys → (∀ b o, b ≠ S → b ≠ z → b ≠ TO → b ≠ i1 → b ≠ i2 → h₁.get? b = some o → h.get? b = some o) →
      h.get? S = some { cls := .type "list", dict := none, data := .seq acc c, slots := #[] } → acc.toList = as.map Value.ref → as.length = i → Pairs xs ys lo h as → lo ≤ h.objs.size → (∀ a ∈ as, a < h.objs.size) →
      codeAny (model prog w) A (.builtin "list.extend.loop" ⟨[.ref S, .ref z, .none], []⟩) R { s with heap := h, toks := tk } := by
  obtain ⟨n1, n2, n3, n4, n5, n6, n7⟩ := hne
  obtain ⟨p1, p2, p3, p4, p5⟩ := hlo
  have ab : ∀ {a q : Addr}, lo ≤ a → q < lo → a ≠ q := fun h1 h2 => Nat.ne_of_gt (Nat.lt_of_lt_of_le h2 h1)
  intro k
  induction k with
  | zero =>
    intro i h tk c acc as hk hi hst hL1 hL2 hkeep hS hacc hal hG hlo2 has
    have hin : i = n := by omega
    subst hin
    refine codeAny_builtin PySem.F.entry_extend_loop ?_
    rw [Around.under_plainId PySem.F.plain_extend_loop _]
    show wpAny _ A.in1 (pyNext (.ref z) >>= _) _ _ _
    refine wpAny_bind (zip_over (s := { s with heap := h, toks := tk }) (A := A.in1) hh D hst hL1 hL2 hend fun h' he => ?_)
    refine wpAny_pure (hR h' tk acc c as (fun b o h0 h1 h2 h3 h4 e => he b o h1 h2 h3 h4 (hkeep b o h0 h1 h2 h3 h4 e)) (he S _ n1 n2 n3 n4 hS) hal ⟨hG.rise, hG.above, fun j a hj => ?_⟩ hacc)
    obtain ⟨x, y, e1, e2, e3⟩ := hG.pairs j a hj
    have ha := hG.above a (List.mem_of_getElem? hj)
    exact ⟨x, y, e1, e2, he a _ (ab ha p1) (ab ha p2) (ab ha p3) (ab ha p4) e3⟩
  | succ k ih =>
    intro i h tk c acc as hk hi hst hL1 hL2 hkeep hS hacc hal hG hlo2 has
    have hlt : i < n := by omega
    obtain ⟨x, ex⟩ := hx i hlt
    obtain ⟨y, ey⟩ := hy i hlt
    have hsz : acc.size = i := by rw [← Array.length_toList, hacc, List.length_map, hal]
    refine codeAny_builtin PySem.F.entry_extend_loop ?_
    rw [Around.under_plainId PySem.F.plain_extend_loop _]
    show wpAny _ A.in1 (pyNext (.ref z) >>= _) _ _ _
    refine wpAny_bind (zip_draw (s := { s with heap := h, toks := tk }) (S := S) D hst hL1 hL2 ex ey (Heap.lt_size hS) fun h' hst' ht hz hkp => ?_)
    dsimp only at ht hz hkp ⊢
    have hS' := hkp S _ n1 n2 n3 n4 hS
    have up : ∀ b o, b ≠ S → h'.get? b = some o → (h'.update S (Obj.mapSeq (·.push (Value.ref h.objs.size)))).get? b = some o := fun b o hb e => (Heap.get?_update_other _ _ (Ne.symm hb)).trans e
    have usz : (h'.update S (Obj.mapSeq (·.push (Value.ref h.objs.size)))).objs.size = h.objs.size + 1 := (Heap.SameBut.update ..).1.trans hz
    have hSl : S < h.objs.size := Heap.lt_size hS
    show wpAny _ A.in1 (updateSeq S (·.push (Value.ref h.objs.size)) >>= _) _ _ _
    refine wpAny_bind ?_
    refine wpAny_updateSeq hS' rfl (wpAny_pure ⟨plainId_quiet PySem.F.plain_extend_loop _, ih (i + 1) _ tk _ (acc.push (Value.ref h.objs.size)) (as ++ [h.objs.size]) (by omega) hlt ?_ ?_ ?_
      (fun b o h0 h1 h2 h3 h4 e => up b o h0 (hkp b o h1 h2 h3 h4 (hkeep b o h0 h1 h2 h3 h4 e))) (Heap.get?_update_self _ hS' rfl) (by rw [Array.toList_push, hacc, List.map_append]; rfl) (by rw [List.length_append, hal]; rfl) ⟨?_, ?_, ?_⟩ (by rw [usz]; exact Nat.le_succ_of_le hlo2) ?_⟩) (by rw [hsz]; omega) (by show (acc.push (Value.ref h.objs.size)).size ≤ sizeLine + 1; rw [Array.size_push, hsz]; omega)
    · obtain ⟨hz', hTI', ⟨a', b', hTO'⟩, g1, g2⟩ := hst'
      refine ⟨?_, up _ _ (Ne.symm n5) hTI', ⟨a', b', up _ _ (Ne.symm n2) hTO'⟩, g1.at fun o e => up _ o (Ne.symm n3) e, g2.at fun o e => up _ o (Ne.symm n4) e⟩
      rcases hz' with e | ⟨T, f, oT, e, e2, t1, t2, t3, t4, t5⟩
      · exact .inl (up _ _ (Ne.symm n1) e)
      · exact .inr ⟨T, f, oT, up _ _ (Ne.symm n1) e, up _ _ t5 e2, t1, t2, t3, t4, t5⟩
    · obtain ⟨o, e, r⟩ := hL1
      exact ⟨o, up _ _ (Ne.symm n6) (hkp _ _ D.l1z D.l1TO D.l1i1 D.l1i2 e), r⟩
    · obtain ⟨o, e, r⟩ := hL2
      exact ⟨o, up _ _ (Ne.symm n7) (hkp _ _ D.l2z D.l2TO D.l2i1 D.l2i2 e), r⟩
    · refine List.pairwise_append.mpr ⟨hG.rise, List.pairwise_singleton _ _, fun a ha b hb => ?_⟩
      rw [List.mem_singleton.mp hb]
      exact has a ha
    · intro a ha
      rcases List.mem_append.mp ha with ha | ha
      · exact hG.above a ha
      · rw [List.mem_singleton.mp ha]; exact hlo2
    · intro j b hj
      rcases Nat.lt_trichotomy j as.length with h1 | h1 | h1
      · rw [List.getElem?_append_left h1] at hj
        obtain ⟨x', y', e1, e2, e3⟩ := hG.pairs j b hj
        have hb := hG.above b (List.mem_of_getElem? hj)
        exact ⟨x', y', e1, e2, up b _ (ab hb p5) (hkp b _ (ab hb p1) (ab hb p2) (ab hb p3) (ab hb p4) e3)⟩
      · subst h1
        have hb : h.objs.size = b := by simpa using hj
        subst hb
        exact ⟨x, y, by rw [hal]; exact ex, by rw [hal]; exact ey, up _ _ (Nat.ne_of_gt hSl) ht⟩
      · have hnone : (as ++ [h.objs.size])[j]? = none := List.getElem?_eq_none (by rw [List.length_append, List.length_singleton]; omega)
        rw [hnone] at hj; cases hj
    · intro a ha
      rw [usz]
      rcases List.mem_append.mp ha with ha | ha
      · exact Nat.lt_succ_of_lt (has a ha)
      · rw [List.mem_singleton.mp ha]; exact Nat.lt_succ_self _
end
/-- list(zip(a, b)): each pair in a new tuple -/
def tLstZip (K : PySem.W.Frag) (ta : TA) : TE := fun σ H Q => ta σ H fun vs H1 => ∃ (a b : Addr) (xs ys : List V), vs = [.ref a, .ref b] ∧ SqL K H1 a xs ∧ SqL K H1 b ys ∧
  ∀ (H2 : Hp) (l : Addr) (Ts : List Addr), (∀ c o, H1 c = some o → H2 c = some o) → H1 l = none → H2 l = some (.lst (Ts.map V.ref)) → Ts.length = min xs.length ys.length →
    (∀ (j : Nat) (T : Addr), Ts[j]? = some T → ∃ x y, xs[j]? = some x ∧ ys[j]? = some y ∧ H1 T = none ∧ H2 T = some (.tup [x, y])) → Q (.ref l) H2
theorem pe_listZip {X : Cx} {e e2 : Expr} {ta : TA} {p p2 pos pos2 : Pos} (hc : X.calm = true) (hg : Gl X "list") (hm : X.mg "list" = none) (hg2 : Gl X "zip") (hm2 : X.mg "zip" = none) (ha : PA X [e, e2] ta)
    (hs : starEach [e, e2] X.env = (false, eval e X.env) :: starEach [e2] X.env := by rfl) (hpl : (backTo pos2 (starEach [e2] X.env)).any (·.1) = false := by rfl)
    (hs2 : starEach [.Call (.Name "zip" p2) [e, e2] [] pos2] X.env = (false, eval (.Call (.Name "zip" p2) [e, e2] [] pos2) X.env) :: starEach [] X.env := by rfl) :
    PE X (.Call (.Name "list" p) [.Call (.Name "zip" p2) [e, e2] [] pos2] [] pos) (tLstZip X.K ta) := by
  refine ⟨fun pins s σ H Q I h => ?_⟩
  refine Call_ (ld_blt I hg hm boot_list (PyProof.Rows.callWith_type1 (args_cons (Call_ (ld_blt I hg2 hm2 PyProof.Rows.boot_zip (PyProof.Rows.callWith_type1 (thn (ha.run pos2 pins s σ H _ I h) fun us s1 ⟨vs, H1, I1, r1, q1⟩ => ?_) hs hpl))) hs2) hs2 rfl))
  obtain ⟨a, b, xs, ys, ex, hqx, hqy, q⟩ := q1
  subst ex
  cases r1 with
  | cons r rr =>
    cases rr with
    | cons r' rr =>
      cases rr
      cases r
      cases r'
      obtain ⟨its, rv, p1, z1⟩ := I1.list hqx
      obtain ⟨its2, rv2, p2, z2⟩ := I1.list hqy
      have la : a < s1.heap.objs.size := p1.lt
      have lb : b < s1.heap.objs.size := p2.lt
      refine call_zip_2 p1.isList p2.isList fun h' hz hTI hTO h1 h2 hsz hk => args_nil ?_
      have D := PySem.W.ktu_apart s1.heap.objs.size a b la lb
      have I2 : Inv X pins σ H1 { s1 with heap := h' } := I1.kept (t' := s1.toks) hk
      have hh : X.A.handled = none := I1.ok.hd hc
      have hl1 : its.length = xs.length := rv.length.symm
      have hl2 : its2.length = ys.length := rv2.length.symm
      have ltS : ∀ {c : Addr} {o : Obj}, h'.get? c = some o → h'.objs.size ≠ c := fun e => Nat.ne_of_gt (Heap.lt_size e)
      obtain ⟨o1, e1, _⟩ := id h1
      obtain ⟨o2, e2', _⟩ := id h2
      obtain ⟨oa, ea, _⟩ := p1.isList
      obtain ⟨ob, eb, _⟩ := p2.isList
      have hne : h'.objs.size ≠ s1.heap.objs.size + 4 ∧ h'.objs.size ≠ s1.heap.objs.size + 3 ∧ h'.objs.size ≠ s1.heap.objs.size ∧ h'.objs.size ≠ s1.heap.objs.size + 1 ∧ h'.objs.size ≠ s1.heap.objs.size + 2 ∧ h'.objs.size ≠ a ∧ h'.objs.size ≠ b :=
        ⟨ltS hz, ltS hTO, ltS e1, ltS e2', ltS hTI, ltS (hk _ _ ea), ltS (hk _ _ eb)⟩
      refine call_list_by (T := "zip") (s := { s1 with heap := h' }) ⟨_, hz, rfl⟩ rfl rfl (fun A s' Q E e q => wpAny_pyIter_zip (e _ hz) q) (fun A s' Q E e q => zip_hint ⟨_, e _ hz, rfl⟩ q) fun h3 c tk R hk3 hS3 hsz3 hR => ?_
      have hn : min xs.length ys.length ≤ sizeLine := Nat.le_trans (Nat.min_le_left _ _) z1
      have ix1 : ∀ i, i < min xs.length ys.length → ∃ x, its.toArray[i]? = some x := fun i hi => ⟨_, by rw [List.getElem?_toArray]; exact List.getElem?_eq_getElem (by omega)⟩
      have ix2 : ∀ i, i < min xs.length ys.length → ∃ x, its2.toArray[i]? = some x := fun i hi => ⟨_, by rw [List.getElem?_toArray]; exact List.getElem?_eq_getElem (by omega)⟩
      have hend : its.toArray[min xs.length ys.length]? = none ∨ its2.toArray[min xs.length ys.length]? = none := by
        rw [List.getElem?_toArray, List.getElem?_toArray]
        rcases Nat.le_total xs.length ys.length with z | z
        · exact .inl (List.getElem?_eq_none (by omega))
        · exact .inr (List.getElem?_eq_none (by omega))
      have hlo : s1.heap.objs.size + 4 < h3.objs.size ∧ s1.heap.objs.size + 3 < h3.objs.size ∧ s1.heap.objs.size < h3.objs.size ∧ s1.heap.objs.size + 1 < h3.objs.size ∧ h'.objs.size < h3.objs.size := by
        rw [hsz3]
        show _ < h'.objs.size + 1 ∧ _
        rw [hsz]
        omega
      have base3 : s1.heap.objs.size ≤ h3.objs.size := Nat.le_of_lt hlo.2.2.1
      have k1 : ∀ c o, s1.heap.get? c = some o → h3.get? c = some o := fun c o e => hk3 c o (hk c o e)
      refine zip_loop (s := { s1 with heap := h' }) (n := min xs.length ys.length) (lo := h3.objs.size) (h₁ := s1.heap) (xs := its.toArray) (ys := its2.toArray) (A := X.A.in1) hh D hne hlo hn ix1 ix2 hend (fun h4 tk4 acc c4 as kp hS4 hal hP hacc => hR _ ?_) (min xs.length ys.length) 0 h3 tk c #[] [] (Nat.sub_zero _) (Nat.zero_le _)
        ⟨.inl (hk3 _ _ hz), hk3 _ _ hTI, ⟨_, _, hk3 _ _ hTO⟩, h1.at fun o e => hk3 _ o e, h2.at fun o e => hk3 _ o e⟩ ?_ ?_ (fun c o _ _ _ _ _ e => k1 c o e) hS3 rfl rfl ⟨List.Pairwise.nil, (fun _ ha => nomatch ha), (fun j a hj => by simp at hj)⟩ (Nat.le_refl _) (fun _ ha => nomatch ha)
      · -- behind the loop
        have old : ∀ b o, s1.heap.get? b = some o → h4.get? b = some o := fun b o e => by
          have hb := Heap.lt_size e
          refine kp b o ?_ ?_ ?_ ?_ ?_ e
          · exact Nat.ne_of_lt (by rw [hsz]; exact Nat.lt_of_lt_of_le hb (Nat.le_add_right _ _))
          · exact Nat.ne_of_lt (Nat.lt_of_lt_of_le hb (Nat.le_add_right _ _))
          · exact Nat.ne_of_lt (Nat.lt_of_lt_of_le hb (Nat.le_add_right _ _))
          · exact Nat.ne_of_lt hb
          · exact Nat.ne_of_lt (Nat.lt_of_lt_of_le hb (Nat.le_add_right _ _))
        have I4 : Inv X pins σ H1 { s1 with heap := h4, toks := tk4 } := I1.kept (t' := tk4) old
        have hSle : s1.heap.objs.size ≤ h'.objs.size := by rw [hsz]; exact Nat.le_add_right _ _
        have hS0 : H1 h'.objs.size = none := I1.hok.fresh hSle
        have nd : as.Nodup := List.Pairwise.imp (fun h => Nat.ne_of_lt h) hP.rise
        have rvS : Vals (as.map V.ref) acc.toList := by
          rw [hacc]
          exact vals_maps (fun z : Addr => V.ref z) (fun z => Value.ref z) as fun _ _ => rfl
        have I5 : Inv X pins σ (upd H1 h'.objs.size (.lst (as.map V.ref))) { s1 with heap := h4, toks := tk4 } :=
          I4.take (h' := h4) (t' := tk4) (fun b ob _ e => e) (I1.fpOk hSle hS0) ⟨by rw [List.length_map, hal]; exact hn, acc.toList, c4, rvS, by rw [Array.toArray_toList]; exact hS4⟩
        have pr : ∀ (j : Nat) (T : Addr), as[j]? = some T → ∃ x y, xs[j]? = some x ∧ ys[j]? = some y ∧ ∀ H2, ObjOk X.prog X.w H2 h4 T (.tup [x, y]) := by
          intro j T hj
          obtain ⟨u, v, e1, e2, e3⟩ := hP.pairs j T hj
          rw [List.getElem?_toArray] at e1 e2
          obtain ⟨x, ex, rx⟩ := L2.DX.pget rv e1
          obtain ⟨y, ey, ry⟩ := L2.DX.pget rv2 e2
          exact ⟨x, y, ex, ey, fun H2 => ⟨by show 2 ≤ sizeLine; decide, [u, v], .cons rx (.cons ry .nil), ⟨_, e3, rfl, _, rfl⟩⟩⟩
        obtain ⟨H2, I6, g, qt⟩ := L2.DX.takeT (P := fun T vs => ∃ (j : Nat) (x y : V), as[j]? = some T ∧ xs[j]? = some x ∧ ys[j]? = some y ∧ vs = [x, y]) I1 as _ I5 nd fun T hT => by
          obtain ⟨j, hj⟩ := List.mem_iff_getElem?.mp hT
          obtain ⟨x, y, ex, ey, ok⟩ := pr j T hj
          have hle : s1.heap.objs.size ≤ T := Nat.le_trans base3 (hP.above T hT)
          refine ⟨hle, ?_, [x, y], ⟨j, x, y, hj, ex, ey, rfl⟩, ok⟩
          rw [upd_ne (Nat.ne_of_gt (Nat.lt_of_lt_of_le hlo.2.2.2.2 (hP.above T hT)))]
          exact I1.hok.fresh hle
        refine ⟨.ref h'.objs.size, H2, I6, rfl, q H2 _ as (fun c o e => g c o (by rw [upd_ne (ne_of_none e hS0)]; exact e)) hS0 (g _ _ upd_same) hal fun j T hj => ?_⟩
        have hT := List.mem_of_getElem? hj
        obtain ⟨vs, ⟨i, x, y, i1, i2, i3, ev⟩, hH⟩ := qt T hT
        have eij : i = j := (List.getElem?_inj (List.getElem?_eq_some_iff.mp i1).1 nd).mp (i1.trans hj.symm)
        subst eij
        rw [ev] at hH
        exact ⟨x, y, i2, i3, I1.hok.fresh (Nat.le_trans base3 (hP.above T hT)), hH⟩
      · obtain ⟨o, e, r⟩ := p1.isList
        exact ⟨o, k1 _ _ e, r⟩
      · obtain ⟨o, e, r⟩ := p2.isList
        exact ⟨o, k1 _ _ e, r⟩
/-! ### list(reversed(a)) -/
theorem lri_hint {prog : Program} {w : World} {A : Around} {E : Value → Shared → Prop} {s : Shared} {it : Addr} {Q : Bool → Shared → Prop} (hT : s.TypeIs (.ref it) "list_reverseiterator") (h : ∀ b, Q b s) : wpAny (model prog w) A (Builtin.List.listLengthHint (.ref it)) Q E s := by
  unfold Builtin.List.listLengthHint
  refine wpAny_bind (wpAny_specialOf hT RT.nolen_lri ?_)
  show wpAny _ A (specialOf (Value.ref it) (Str.ofString "__length_hint__") >>= _) _ _ _
  refine wpAny_bind (wpAny_specialOf hT RT.hint_lri ?_)
  generalize hid : ("list_reverseiterator.__length_hint__" : String) = id0
  wp_delta
  rw [show splitId id0 = some ("list_reverseiterator", "__length_hint__") from by subst hid; decide +kernel]
  subst hid
  refine wpAny_bind (wpAny_isInstance (b := true) hT (by rw [isSubtype_type]; kernel_rfl) ?_)
  exact wpAny_pure (h _)
def tLstRev (K : PySem.W.Frag) (te : TE) : TE := fun σ H Q => te σ H fun v H1 => ∃ (a : Addr) (xs : List V), v = .ref a ∧ SqL K H1 a xs ∧ ∀ q, H1 q = none → Q (.ref q) (upd H1 q (.lst xs.reverse))
theorem pe_listRev {X : Cx} {e : Expr} {te : TE} {p p2 pos pos2 : Pos} (hc : X.calm = true) (hg : Gl X "list") (hm : X.mg "list" = none) (hg2 : Gl X "reversed") (hm2 : X.mg "reversed" = none) (he : PE X e te)
    (hs : starEach [e] X.env = (false, eval e X.env) :: starEach [] X.env := by rfl)
    (hs2 : starEach [.Call (.Name "reversed" p2) [e] [] pos2] X.env = (false, eval (.Call (.Name "reversed" p2) [e] [] pos2) X.env) :: starEach [] X.env := by rfl) :
    PE X (.Call (.Name "list" p) [.Call (.Name "reversed" p2) [e] [] pos2] [] pos) (tLstRev X.K te) := by
  refine ⟨fun pins s σ H Q I h => ?_⟩
  refine Call_ (ld_blt I hg hm boot_list (PyProof.Rows.callWith_type1 (args_cons (Call_ (ld_blt I hg2 hm2 PyProof.Rows.boot_reversed (PyProof.Rows.callWith_type1 (args_cons (thn (he.run pins s σ H _ I h) fun u s1 ⟨v, H1, I1, r1, q1⟩ => args_nil ?_) hs) hs rfl))) hs2) hs2 rfl))
  obtain ⟨a, xs, ev, hq, q⟩ := q1
  subst ev
  obtain rfl : u = Value.ref a := r1
  obtain ⟨its, rv, p', hz⟩ := I1.list hq
  refine call_reversed_list p'.isList (args_nil ?_)
  have k0 : ∀ b o, s1.heap.get? b = some o → (s1.heap.push (revObj a ((its.toArray.size : Int) - 1))).get? b = some o := fun b o e => Heap.get?_push_of_some _ e
  have hl := p'.isList
  obtain ⟨ol, hol, _⟩ := id hl
  have hne : a ≠ s1.heap.objs.size := Nat.ne_of_lt (Heap.lt_size hol)
  have hn : its.toArray.size ≤ sizeLine := by rw [List.size_toArray, ← rv.length]; exact hz
  have hit : (s1.heap.push (revObj a ((its.toArray.size : Int) - 1))).IsRevIter s1.heap.objs.size a ((its.toArray.size : Int) - 1) := ⟨_, Heap.get?_push_size _ rfl, rfl, rfl⟩
  have hh : X.A.handled = none := I1.ok.hd hc
  have hsz : (s1.heap.push (revObj a ((its.toArray.size : Int) - 1))).objs.size = s1.heap.objs.size + 1 := Heap.size_push ..
  obtain ⟨oI, hoI, hcI, hdI⟩ := id hit
  refine call_list_by (T := "list_reverseiterator") (s := { s1 with heap := s1.heap.push (revObj a ((its.toArray.size : Int) - 1)) }) ⟨oI, hoI, hcI⟩ rfl rfl (fun A s' Q E e q => wpAny_pyIter_revIter (l := a) (i := (its.toArray.size : Int) - 1) ⟨oI, e _ hoI, hcI, hdI⟩ q) (fun A s' Q E e q => lri_hint ⟨oI, e _ hoI, hcI⟩ q) fun h3 c tk R hk3 hS3 hsz3 hR => ?_
  dsimp only at hS3 hsz3 hR hk3 ⊢
  rw [hsz] at hS3 hR ⊢
  have W := (Walks.listRev (prog := X.prog) (w := X.w) (A := X.A.in1.in1) hh s1.heap.objs.size a hne its.toArray).toS
  have hSf : s1.heap.objs.size + 1 ∉ [s1.heap.objs.size, a] := by
    simp only [List.mem_cons, List.not_mem_nil, or_false, not_or]
    exact ⟨Nat.succ_ne_self _, Nat.ne_of_gt (Nat.lt_succ_of_lt (Heap.lt_size hol))⟩
  have e0 : ((its.toArray.size : Nat) : Int) - 1 - ((0 : Nat) : Int) = (its.toArray.size : Int) - 1 := by omega
  have hl3 : h3.IsList a its.toArray := by
    obtain ⟨o, e, r⟩ := hl
    exact ⟨o, hk3 _ _ (k0 _ _ e), r⟩
  refine codeAny_extend_loopS W hn _ hSf _ its.toArray.size 0 { s1 with heap := h3, toks := tk } #[] c rfl (Nat.zero_le _) ⟨Nat.zero_le _, by rw [e0]; exact hit.at fun o e => hk3 _ o e, hl3⟩ hS3 (ItemsOf.nil _) fun s' acc' c' hm' hS' hacc => hR s' ?_
  rw [Moved.eq_with hm']
  have old : ∀ b o, s1.heap.get? b = some o → s'.heap.get? b = some o := fun b o e => hm'.heap b o (fun hmem => by
    have hb := Heap.lt_size e
    rcases List.mem_cons.mp hmem with e' | hmem
    · rw [e'] at hb; exact absurd (Nat.lt_of_succ_lt hb) (Nat.lt_irrefl _)
    · rw [List.mem_singleton.mp hmem] at hb; exact absurd hb (Nat.lt_irrefl _)) (hk3 _ _ (k0 _ _ e))
  have hSle : s1.heap.objs.size ≤ s1.heap.objs.size + 1 := Nat.le_succ _
  have hS0 : H1 (s1.heap.objs.size + 1) = none := I1.hok.fresh hSle
  refine ⟨.ref (s1.heap.objs.size + 1), upd H1 (s1.heap.objs.size + 1) (.lst xs.reverse), I1.laid (h' := s'.heap) (t' := s'.toks) old hSle (show ObjOk X.prog X.w _ _ _ (.lst xs.reverse) from ⟨by rw [List.length_reverse]; exact hz, acc'.toList, c', RT.vals_rev rv hacc, ?_⟩), rfl, q _ hS0⟩
  rw [Array.toArray_toList]
  exact hS'
end K22
end
section
set_option Elab.async false
set_option linter.all false
set_option maxRecDepth 100000
set_option maxHeartbeats 4000000
/-! K22Way: way and reached of the pipes. -/
namespace K22
open PySem PySem.Spec PyProof.Rows L2 NdefX Pm
def oV : Option Int → V
  | none => .non
  | some x => .int x
def kvE (ks : List Ent) : List (Key × V) := ks.map fun p => ((Sum.inl p.1 : Key), oV p.2)
theorem kvE_no {ks : List Ent} {y : Int} (h : y ∉ keysOf ks) : valV (kvE ks) (Sum.inl y : Key) = none := by
  induction ks with
  | nil => rfl
  | cons p ks ih =>
    have h1 : ¬ p.1 = y := fun z => h (by unfold keysOf; rw [List.map_cons, z]; exact List.mem_cons_self)
    have h2 : y ∉ keysOf ks := fun z => h (by unfold keysOf; rw [List.map_cons]; exact List.mem_cons_of_mem _ z)
    show valV (((Sum.inl p.1 : Key), oV p.2) :: kvE ks) (Sum.inl y : Key) = none
    rw [valV_neg (fun z => h1 (Sum.inl.inj z)), ih h2]
theorem kvE_at {ks : List Ent} (nd : (keysOf ks).Nodup) {i : Nat} {y : Int} {o : Option Int} (h : ks[i]? = some (y, o)) : valV (kvE ks) (Sum.inl y : Key) = some (oV o) := by
  induction ks generalizing i with
  | nil => simp at h
  | cons p ks ih =>
    have nd' : p.1 ∉ keysOf ks ∧ (keysOf ks).Nodup := by
      have : (p.1 :: keysOf ks).Nodup := nd
      exact List.nodup_cons.mp this
    show valV (((Sum.inl p.1 : Key), oV p.2) :: kvE ks) (Sum.inl y : Key) = some (oV o)
    cases i with
    | zero =>
      have : p = (y, o) := by simpa using h
      rw [this]
      exact valV_pos rfl
    | succ i =>
      have hm : (y, o) ∈ ks := List.mem_of_getElem? (i := i) (by simpa using h)
      have h1 : ¬ p.1 = y := fun z => nd'.1 (List.mem_map.mpr ⟨(y, o), hm, z.symm⟩)
      rw [valV_neg (fun z => h1 (Sum.inl.inj z)), ih nd'.2 (i := i) (by simpa using h)]
theorem kvE_is {ks : List Ent} (nd : (keysOf ks).Nodup) (y : Int) : (valV (kvE ks) (Sum.inl y : Key)).isSome = decide (y ∈ keysOf ks) := by
  by_cases h : y ∈ keysOf ks
  · obtain ⟨p, hp, e⟩ := List.mem_map.mp h
    obtain ⟨i, hi⟩ := List.mem_iff_getElem?.mp hp
    obtain ⟨a, o⟩ := p
    have e : a = y := e
    subst e
    rw [kvE_at nd hi, decide_eq_true h]
    rfl
  · rw [kvE_no h, decide_eq_false h]
    rfl
theorem kvE_put {ks : List Ent} {y : Int} {o : Option Int} (h : y ∉ keysOf ks) : putK (kvE ks) (Sum.inl y) (oV o) = kvE (ks ++ [(y, o)]) := by
  rw [putK_new _ (kvE_no h)]
  unfold kvE
  rw [List.map_append]
  rfl
theorem len_kvE (ks : List Ent) : (kvE ks).length = ks.length := List.length_map _
theorem len_places (m : Nat) : (places m).length = m := by unfold places; rw [List.length_map, List.length_range]
theorem drop_app {α : Type} {l : List α} {n : Nat} (h : n ≤ l.length) (r : List α) : (l ++ r).drop n = l.drop n ++ r := by
  rw [List.drop_append_of_le_length h]
theorem iD_at {ks : List Int} {i : Nat} {d : PyData} (h : (iD ks)[i]? = some d) : ∃ y, ks[i]? = some y ∧ d = .int y := by
  unfold iD at h
  rw [List.getElem?_map] at h
  cases e : ks[i]? with
  | none => rw [e] at h; cases h
  | some y => rw [e] at h; cases h; exact ⟨y, rfl, rfl⟩
theorem iD_len (ks : List Int) : (iD ks).length = ks.length := List.length_map _
/-- what the pipes' defs ask of the text -/
structure PTx (K : PySem.W.Frag) (mg : Str → Option Value) (Cp fM fF : Addr) (fdM fdF : FuncData) : Prop where
  T : TxP K Cp
  rg : mg "range" = none
  ls : mg "list" = none
  rv : mg "reversed" = none
  zp : mg "zip" = none
  tp : mg "tuple" = none
  sd : mg "sorted" = none
  mn : mg "min" = none
  FM : Fun K "more_room" "Pipes.more_room" sMore fM fdM
  bM : Binds K fdM ["self", "one", "other"] []
  mM : Meth K Cp "more_room" fM
  FF : Fun K "ways_from" "Pipes.ways_from" sFrom fF fdF
  bF : Binds K fdF ["self", "one"] []
  mF : Meth K Cp "ways_from" fF
section
variable {P : Program} {w : World} {K : PySem.W.Frag} {mg : Str → Option Value} {base : Heap} {Cp fM fF : Addr} {fdM fdF : FuncData}
def spWay (Cp : Addr) : Sp := fun vs H Q _ => ∃ (B : Amb) (p r g : Addr) (m : Nat) (ops : List Op) (gf : Int → Int → Int) (s t : Int), vs = [.ref p, .int s, .int t] ∧ TK B H ∧ PipeAt Cp H p r g m ops gf ∧ m ≤ 900 ∧ s ∈ places m ∧
  ∀ v H', Gr B H H' → ((v = .non ∧ ∃ S : Int → Bool, S s = true ∧ S t = false ∧ Closed (places m) ops gf S) ∨ ∃ w, Way (places m) ops gf s t w ∧ Is B.X H' v (.list (iD w))) → Q v H'
theorem scWay : FnScope ["self", "start", "end", "came", "ways", "here", "other", "found"] ["self", "start", "end"] (defScope sWay) := ⟨rfl, rfl, rfl, by decide +kernel, rfl, by decide +kernel, by decide +kernel⟩
/-- ways_from called -/
theorem ev_from {B : Amb} {C : Cx} {k : Nat} {o e : Expr} {σ : L2.St} {H : Hp} {apos pos : Pos} {p r g : Addr} {m : Nat} {ops : List Op} {gf : Int → Int → Int} {x : Int} (hK : C.K = K) (hmg : C.mg = mg) (X : PTx K mg Cp fM fF fdM fdF) (hr : Room (k + 2) C.A) (PA : PipeAt Cp H p r g m ops gf) (hm : m ≤ 1000) (ho : EX B C o σ H (.ref p)) (he : EV B C e σ H (.int x))
    (hst : starEach [e] C.env = (false, eval e C.env) :: starEach [] C.env := by rfl) (hpl : (backTo pos (starEach [] C.env)).any (·.1) = false := by rfl) {pl : Sem Bool}
    (ht : eval (.Call (.Attribute o "ways_from" apos) [e] [] pos) C.env = (do
      let ov ← eval o C.env
      standAt apos.atName
      let (f, first) ← holding [ov] (getMethod ov "ways_from" pl)
      callWith pos f first (backTo pos (starEach [e] C.env)) (backToKw pos (keywordEach [] C.env))) := by rfl) : EV B C (.Call (.Attribute o "ways_from" apos) [e] [] pos) σ H (.list (iD (nexts m ops gf x))) := by
  subst hK hmg
  obtain ⟨⟨dx, e1⟩, _⟩ := id PA
  refine evp_meth (ok_from X.FF X.T X.rg X.FM X.bM X.mM) (hr.mono (by omega)) X.bF pass0 X.T.cl X.mF ho e1 (pfl_no _ _ _ (by decide +kernel) (by decide +kernel) (by decide +kernel)) (eap_d he eap_nil hst) (fun H2 vs Q g2 hvs q => ?_) hst hpl ht
  obtain ⟨v, ws, rfl, hv, rfl⟩ := hvs
  rw [hv.int_eq]
  exact ⟨B, p, r, g, m, ops, gf, x, rfl, g2.tk, PA.mono g2, hm, fun v H3 g3 h => q v H3 g3 h⟩
/-- the search under way: c the dict, a the list from k on -/
structure WaySt (B : Amb) (c a : Addr) (H1 H' : Hp) (V : List Int) (mo : Int → Int → Prop) (s : Int) (ks : List Ent) (dn k : Nat) : Prop where
  bfs : Bfs V mo s ks dn
  hc : H' c = some (.dK (kvE ks))
  ha : H' a = some (.lst (iV ((keysOf ks).drop k)))
  gw : Gw (B.plus [c, a]) [c, a] H1 H'
theorem WaySt.mono {B : Amb} {c a : Addr} {H1 H' H'' : Hp} {V : List Int} {mo : Int → Int → Prop} {s : Int} {ks : List Ent} {dn k : Nat} (S : WaySt B c a H1 H' V mo s ks dn k) (g : Gr (B.plus [c, a]) H' H'') : WaySt B c a H1 H'' V mo s ks dn k :=
  ⟨S.bfs, g.keep _ _ S.hc (fun ps z => by cases z), g.keep _ _ S.ha (fun ps z => by cases z), S.gw.trans g.w⟩
theorem gw_c {B : Amb} {c a : Addr} {H H' : Hp} {kvs kvs' : List (Key × V)} (t : TK (B.plus [c, a]) H) (h : H c = some (.dK kvs)) (e : H' = upd H c (.dK kvs')) : Gw (B.plus [c, a]) [c, a] H H' := by
  subst e
  exact (Gw.upd t h (fun ps z => by cases z) fun q z => by cases z).more fun b hb => by simp at hb ⊢; exact .inl hb
theorem gw_a {B : Amb} {c a : Addr} {H H' : Hp} {xs xs' : List V} (t : TK (B.plus [c, a]) H) (h : H a = some (.lst xs)) (e : H' = upd H a (.lst xs')) : Gw (B.plus [c, a]) [c, a] H H' := by
  subst e
  exact (Gw.upd t h (fun ps z => by cases z) fun q z => by cases z).more fun b hb => by simp at hb ⊢; exact .inr hb
theorem drop_at {α : Type} {l : List α} {n : Nat} {x : α} {r : List α} (h : l.drop n = x :: r) : l[n]? = some x ∧ l.drop (n + 1) = r := by
  have h1 : l[n]? = some x := by
    have := List.getElem?_drop (xs := l) (i := n) (j := 0)
    rw [h] at this
    simpa using this.symm
  refine ⟨h1, ?_⟩
  have := drop_cons_of h1
  rw [h] at this
  exact (List.cons.inj this).2.symm
theorem ok_way {f : Addr} {fd : FuncData} (F : Fun K "way" "Pipes.way" sWay f fd) (X : PTx K mg Cp fM fF fdM fdF) : FnOk P w K mg base CX0 3 f fd ["self", "start", "end"] (spWay Cp) := by
  refine F.ok scWay (fun vs H Q E h => ?_) (fun cdv A outer s H vs Q E hr h => ?_)
  · obtain ⟨B, p, r, g, m, ops, gf, st, t, rfl, _⟩ := h
    rfl
  · obtain ⟨B, p, r, g, m, ops, gf, st, t, rfl, tk, PA, hm, hs, k⟩ := h
    have hu := hu_of hr
    have hu64 := hr.units
    refine ⟨_, pss_S, ?_⟩
    -- came, ways = ({start: None}, [start])
    refine ss_cons (of_ps (ps_par (i := 3) (j := 4) rfl scWay.nd rfl rfl (by decide) rfl rfl (pa_cons (pe_disp (pps_cons (pv 1) pe_non pps_nil) rfl rfl (by decide) (by decide)) (pa_cons (pe_lst (pa_cons (pv 1) pa_nil)) pa_nil)) rfl) ?_)
    intro c hc
    refine ⟨_, rfl, upd_same, [((Sum.inl st : Key), V.non)], rfl, (by show 1 ≤ 15; decide), ?_⟩
    refine ⟨_, rfl, (by show 1 ≤ sizeLine; decide), fun a ha => ⟨_, _, rfl, ?_⟩⟩
    have nac : a ≠ c := fun z => by rw [z, upd_same] at ha; cases ha
    rw [upd_ne nac, upd_ne nac] at ha
    have ec : (upd (upd (upd H c (.dK [])) c (.dK (mergeK [] [((Sum.inl st : Key), V.non)]))) a (.lst [V.int st])) c = some (.dK (kvE [(st, none)])) := by
      rw [upd_ne (Ne.symm nac), upd_same]
      rfl
    have ea : (upd (upd (upd H c (.dK [])) c (.dK (mergeK [] [((Sum.inl st : Key), V.non)]))) a (.lst [V.int st])) a = some (.lst (iV [st])) := upd_same
    have g1 : Gr B H (upd (upd (upd H c (.dK [])) c (.dK (mergeK [] [((Sum.inl st : Key), V.non)]))) a (.lst [V.int st])) := .ext tk fun b o e => by
      rw [upd_ne (ne_of_none e ha), upd_ne (ne_of_none e hc), upd_ne (ne_of_none e hc)]
      exact e
    generalize hH1 : (upd (upd (upd H c (.dK [])) c (.dK (mergeK [] [((Sum.inl st : Key), V.non)]))) a (.lst [V.int st])) = H1 at ec ea g1
    have tk1 : TK (B.plus [c, a]) H1 := g1.tk.plus fun b hb => by
      simp at hb
      rcases hb with e | e
      · rw [e, ec]; exact fun z => by cases z
      · rw [e, ea]; exact fun z => by cases z
    have hcaN : ∀ b ∈ [c, a], H b = none := fun b hb => by
      simp at hb
      rcases hb with e | e
      · rw [e]; exact hc
      · rw [e]; exact ha
    have grB : ∀ {H'}, Gw (B.plus [c, a]) [c, a] H1 H' → Gr B H H' := fun g => (Gw.minus g).gr g1 hcaN
    -- while ways != []
    refine ss_cons (s_while (fun mm σ' H' => ∃ (ks : List Ent) (dn : Nat) (o1 o2 o3 : Option V), mm = m - dn ∧ σ' = [some (.ref p), some (.int st), some (.int t), some (.ref c), some (.ref a), o1, o2, o3] ∧ WaySt B c a H1 H' (places m) (fun x y => more ops gf x y) st ks dn dn)
      PassesOwn.never m ⟨[(st, none)], 0, none, none, none, rfl, rfl, bfs_start hs, ec, ea, (Gr.refl tk1).w⟩ ?_)
    rintro mm σ' H' ⟨ks, dn, o1, o2, o3, rfl, rfl, S⟩
    refine (et_ne_nil hu64 (ex_var 4) S.ha).go S.gw.tk fun H2 g2 => ⟨fun hb N hN => ?_, fun hb => ?_⟩
    · have S2 := S.mono g2
      cases hd : (keysOf ks).drop dn with
      | nil => rw [hd] at hb; simp at hb
      | cons x rest =>
        obtain ⟨hx, hrest⟩ := drop_at hd
        have e2a : H2 a = some (.lst (V.int x :: iV rest)) := by rw [S2.ha, hd]; rfl
        have hdl : dn < ks.length := by rw [← len_keys]; exact (List.getElem?_eq_some_iff.mp hx).1
        have hkl : ks.length ≤ m := by have := bfs_len S.bfs; rw [len_places] at this; exact this
        -- here = ways.pop(0)
        refine ss_cons (s_set 5 scWay.nd (t_pop0 S2.gw.tk (ex_var 4) e2a (fun H3 g3 => ?_)))
        have S3 := S2.mono g3
        have e3a := g3.keep _ _ e2a fun ps z => by cases z
        have w4 := gw_a S3.gw.tk e3a rfl (xs' := iV rest)
        have S4 : WaySt B c a H1 (upd H3 a (.lst (iV rest))) (places m) (fun x y => more ops gf x y) st ks dn (dn + 1) :=
          ⟨S.bfs, by rw [upd_ne (Ne.symm nac)]; exact S3.hc, by rw [upd_same, hrest], S3.gw.trans w4⟩
        have PA4 := PA.mono (grB S4.gw)
        -- for other in self.ways_from(here)
        refine ss_cons (s_for (B := B.plus [c, a]) S4.gw.tk PassesOwn.never rfl (ei_list (ev_from rfl rfl X (k := 0) hr PA4 (by omega) (ex_var 0) (ex_var 5).int)) fun H5 g5 => ?_)
        have S5 := S4.mono g5
        refine ⟨.nm 6, fun i σ' H' => ∃ (ks' : List Ent) (o : Option V), σ' = [some (.ref p), some (.int st), some (.int t), some (.ref c), some (.ref a), some (.int x), o, o3] ∧ WaySt B c a H1 H' (places m) (fun x y => more ops gf x y) st ks' dn (dn + 1) ∧ (keysOf ks')[dn]? = some x ∧
          (∀ (j : Nat) y, j < i → (nexts m ops gf x)[j]? = some y → y ∈ keysOf ks') ∧ Gw (B.plus [c, a]) [c, a] H5 H', eg_nm (fun C' e => by subst e; exact pg_name scWay.nd rfl (.inl rfl)), fun d _ => True.intro,
          ⟨ks, o2, rfl, S5, hx, fun j y hj => absurd hj (Nat.not_lt_zero _), (Gr.refl S5.gw.tk).w⟩, fun i σ' H' _ ⟨_, _, _, _, _, _, gw⟩ => gw.x fun b hb => List.mem_append_left _ hb, ?_, ?_⟩
        · rintro i d σ' H' H6 σ2 hi ⟨ks', o, rfl, S6, hx', hseen, gw6⟩ g6 ⟨v, rfl, hv⟩
          obtain ⟨y, hy, rfl⟩ := iD_at hi
          rw [hv.int_eq]
          have S7 := S6.mono g6
          have hyV : y ∈ places m ∧ more ops gf x y := by
            have := List.mem_of_getElem? hy
            unfold nexts at this
            rw [List.mem_filter] at this
            exact ⟨this.1, of_decide_eq_true this.2⟩
          have hkl' : ks'.length ≤ m := by have := bfs_len S6.bfs; rw [len_places] at this; exact this
          have hdl' : dn < ks'.length := by rw [← len_keys]; exact (List.getElem?_eq_some_iff.mp hx').1
          -- if other not in came
          refine ss_cons (s_if ((et_knotin hu (ex_var 3) S7.hc (ex_var 6).int).go S7.gw.tk fun H8 g8 => ?_))
          have S8 := S7.mono g8
          rw [kvE_is S8.bfs.nd]
          refine ⟨fun z => ?_, fun z => ss_nil (ss_nil ⟨ks', _, rfl, S8, hx', fun j y' hj hy' => ?_, gw6.trans (g6.w.trans g8.w)⟩)⟩
          · have hny : y ∉ keysOf ks' := by simpa using z
            refine ss_cons (s_kput hu S8.gw.tk (ex_var 3) (ex_var 6).int (ex_var 5) S8.hc (by rw [len_kvE]; omega) fun H9 g9 => ?_)
            have S9 := S8.mono g9
            have w9 := gw_c S9.gw.tk S9.hc rfl (kvs' := putK (kvE ks') (Sum.inl y) (V.int x))
            have e9a : (upd H9 c (.dK (putK (kvE ks') (Sum.inl y) (V.int x)))) a = some (.lst (iV ((keysOf ks').drop (dn + 1)))) := by rw [upd_ne nac]; exact S9.ha
            refine ss_cons (s_append (B := B.plus [c, a]) w9.tk (ex_var 4) (ex_var 6) e9a (by rw [List.length_map, List.length_drop, len_keys]; omega) fun H10 g10 => ss_nil (ss_nil ?_))
            have e10a := g10.keep _ _ e9a fun ps z => by cases z
            have e10c : H10 c = some (.dK (kvE (ks' ++ [(y, some x)]))) := by
              rw [← kvE_put hny]
              exact g10.keep _ _ upd_same fun ps z => by cases z
            have w10 := gw_a g10.tk e10a rfl (xs' := iV ((keysOf ks').drop (dn + 1)) ++ [V.int y])
            have hk2 : keysOf (ks' ++ [(y, some x)]) = keysOf ks' ++ [y] := by unfold keysOf; rw [List.map_append]; rfl
            refine ⟨ks' ++ [(y, some x)], _, rfl, ⟨bfs_add S6.bfs hx' hyV.1 hyV.2 hny, by rw [upd_ne (Ne.symm nac)]; exact e10c, ?_, S9.gw.trans (w9.trans (g10.w.trans w10))⟩, ?_, fun j y' hj hy' => ?_, gw6.trans (g6.w.trans (g8.w.trans (g9.w.trans (w9.trans (g10.w.trans w10)))))⟩
            · rw [upd_same, hk2, drop_app (by rw [len_keys]; omega), iV, iV, List.map_append]
              rfl
            · rw [hk2, List.getElem?_append_left (by rw [len_keys]; exact hdl')]
              exact hx'
            · rw [hk2]
              by_cases c1 : j < i
              · exact List.mem_append_left _ (hseen j y' c1 hy')
              · have : j = i := by omega
                subst this
                rw [hy] at hy'
                cases hy'
                exact List.mem_append_right _ List.mem_cons_self
          · by_cases c1 : j < i
            · exact hseen j y' c1 hy'
            · have : j = i := by omega
              subst this
              rw [hy] at hy'
              cases hy'
              simpa using z
        · rintro σ' H' ⟨ks', o, rfl, S6, hx', hseen, gw6⟩
          refine ss_nil (hN (m - (dn + 1)) _ _ (by omega) ⟨ks', dn + 1, _, _, _, rfl, rfl, bfs_done S6.bfs hx' fun y hy hmo => ?_, S6.hc, S6.ha, S6.gw⟩)
          have : y ∈ nexts m ops gf x := List.mem_filter.mpr ⟨hy, decide_eq_true hmo⟩
          obtain ⟨j, hj⟩ := List.mem_iff_getElem?.mp this
          exact hseen j y (by rw [iD_len]; exact (List.getElem?_eq_some_iff.mp hj).1) hj
    · have S2 := S.mono g2
      have hdn : dn = ks.length := by
        have h1 : (keysOf ks).drop dn = [] := by simpa using hb
        have h2 := List.drop_eq_nil_iff.mp h1
        rw [len_keys] at h2
        have := S.bfs.le
        omega
      have PA2 := PA.mono (grB S2.gw)
      -- if end not in came: return None
      refine ss_cons (s_if ((et_knotin hu (ex_var 3) S2.hc (ex_var 2).int).go S2.gw.tk fun H3 g3 => ?_))
      have S3 := S2.mono g3
      rw [kvE_is S3.bfs.nd]
      refine ⟨fun z => ss_cons (s_ret (ev_non.go S3.gw.tk fun v H4 g4 hv => ?_)), fun z => ss_nil ?_⟩
      · rw [hv.non_eq]
        refine k _ _ (grB (S3.mono g4).gw) (.inl ⟨rfl, fun x => decide (x ∈ keysOf ks), decide_eq_true (bfs_s S.bfs), ?_, bfs_closed (hdn ▸ S.bfs)⟩)
        exact decide_eq_false (by simpa using z)
      · have hmem : t ∈ keysOf ks := by simpa using z
        obtain ⟨p0, hp0, et⟩ := List.mem_map.mp hmem
        obtain ⟨i0, hi0⟩ := List.mem_iff_getElem?.mp hp0
        have hi0 : (keysOf ks)[i0]? = some t := by
          unfold keysOf
          rw [List.getElem?_map, hi0]
          exact congrArg some et
        -- found = [end]
        refine ss_cons (s_set 7 scWay.nd (of_pe (pe_lst (pa_cons (pv 2) pa_nil)) ⟨_, rfl, (by show 1 ≤ sizeLine; decide), fun fa hfa => ?_⟩))
        have g4 : Gr B H (upd H3 fa (.lst [V.int t])) := (grB S3.gw).trans (.new (grB S3.gw).tk hfa)
        have nfc : fa ≠ c := fun z => by rw [z, S3.hc] at hfa; cases hfa
        have hfN : ∀ b ∈ [fa], H b = none := fun b hb => by
          rw [List.mem_singleton.mp hb]
          exact (grB S3.gw).dom _ hfa
        have tk4 : TK (B.plus [fa]) (upd H3 fa (.lst [V.int t])) := g4.tk.plus fun b hb => by
          rw [List.mem_singleton.mp hb, upd_same]
          exact fun z => by cases z
        have e4c : (upd H3 fa (.lst [V.int t])) c = some (.dK (kvE ks)) := by rw [upd_ne (Ne.symm nfc)]; exact S3.hc
        have e4f : (upd H3 fa (.lst [V.int t])) fa = some (.lst (iV [t].reverse)) := upd_same
        generalize (upd H3 fa (.lst [V.int t])) = H4 at g4 tk4 e4c e4f
        have grF : ∀ {H'}, Gw (B.plus [fa]) [fa] H4 H' → Gr B H H' := fun g => (Gw.minus g).gr g4 hfN
        -- while came[found[-1]] is not None
        refine ss_cons (s_while (fun mm σ' H' => ∃ (w : List Int), σ' = [some (.ref p), some (.int st), some (.int t), some (.ref c), some (.ref a), o1, o2, some (.ref fa)] ∧ Back (fun x y => more ops gf x y) ks t mm w ∧ H' c = some (.dK (kvE ks)) ∧ H' fa = some (.lst (iV w.reverse)) ∧ Gw (B.plus [fa]) [fa] H4 H')
          PassesOwn.never i0 ⟨[t], rfl, back_start hi0, e4c, e4f, (Gr.refl tk4).w⟩ ?_)
        rintro mm σ' H' ⟨w, rfl, BK, ec5, ef5, w5⟩
        obtain ⟨c0, r0, rfl, hc0⟩ := back_head BK
        have ef5' : H' fa = some (.lst (iV r0.reverse ++ [V.int c0])) := by
          rw [ef5, List.reverse_cons, iV, List.map_append]
          rfl
        obtain ⟨o, ho⟩ : ∃ o, ks[mm]? = some (c0, o) := by
          unfold keysOf at hc0
          rw [List.getElem?_map] at hc0
          cases e : ks[mm]? with
          | none => rw [e] at hc0; cases hc0
          | some q =>
            rw [e] at hc0
            obtain ⟨q1, q2⟩ := q
            have e1 : q1 = c0 := Option.some.inj hc0
            exact ⟨q2, by rw [e1]⟩
        have hmml : mm < ks.length := (List.getElem?_eq_some_iff.mp ho).1
        have hkl : ks.length ≤ m := by have := bfs_len S.bfs; rw [len_places] at this; exact this
        have hval := kvE_at S.bfs.nd ho
        cases o with
        | none =>
          have hz : mm = 0 := by
            by_cases h0 : mm = 0
            · exact h0
            · obtain ⟨x, j, e, _⟩ := S.bfs.pred mm c0 none ho h0
              cases e
          subst hz
          refine (et_cmp co_notN (EVP.non (ex_kget hu (ex_var 3) ec5 (ex_last (ex_var 7) ef5').int hval)) ev_non).go w5.tk fun H6 g6 => ⟨fun z => (by cases z), fun _ => ?_⟩
          have e6f := g6.keep _ _ ef5 fun ps z => by cases z
          -- return list(reversed(found))
          refine ss_cons (s_ret (of_pe (pe_listRev rfl rfl X.ls rfl X.rv (pv 7)) ⟨_, rfl, fa, _, rfl, .inl (.inl e6f), fun q hq => ?_⟩))
          have g6' := (grF (w5.trans g6.w))
          refine k _ _ (g6'.trans (.new g6'.tk hq)) (.inr ⟨c0 :: r0, back_way S.bfs BK, ?_⟩)
          refine is_iV ?_ (g6'.tk.notX hq)
          rw [upd_same, iV, iV, ← List.map_reverse, List.reverse_reverse]
        | some x =>
          refine (et_cmp co_notN (EX.int (ex_kget hu (ex_var 3) ec5 (ex_last (ex_var 7) ef5').int hval)) ev_non).go w5.tk fun H6 g6 => ⟨fun _ N hN => ?_, fun z => (by cases z)⟩
          have e6f := g6.keep _ _ ef5' fun ps z => by cases z
          have e6c := g6.keep _ _ ec5 fun ps z => by cases z
          have hm0 : mm ≠ 0 := fun z => by
            subst z
            rw [S.bfs.head] at ho
            cases ho
          obtain ⟨x', j, e, hj, hxj, hmo⟩ := S.bfs.pred mm c0 _ ho hm0
          cases e
          have hrl : r0.length ≤ 1000 := by
            obtain ⟨is, hp, h1, h2⟩ := BK.is_
            have e1 := congrArg List.length h2
            rw [List.length_map, List.length_map, List.length_cons] at e1
            have e2 : is.length ≤ (List.range ks.length).length := nodup_sub_len (List.Pairwise.imp (fun h => Nat.ne_of_lt h) hp) fun q hq => by
              have hm : (keysOf ks)[q]? ∈ (c0 :: r0).map some := by rw [← h2]; exact List.mem_map.mpr ⟨q, hq, rfl⟩
              obtain ⟨x, _, hx⟩ := List.mem_map.mp hm
              have := (List.getElem?_eq_some_iff.mp hx.symm).1
              rw [len_keys] at this
              exact List.mem_range.mpr this
            rw [List.length_range] at e2
            omega
          refine ss_cons (s_append (B := B.plus [fa]) g6.tk (ex_var 7) (ex_kget hu (ex_var 3) e6c (ex_last (ex_var 7) e6f).int hval) e6f (by rw [List.length_append, List.length_map, List.length_reverse, List.length_singleton]; omega) fun H7 g7 => ss_nil (hN j _ _ hj ⟨x :: c0 :: r0, rfl, back_step BK hj hxj hmo, ?_, ?_, ?_⟩))
          · rw [upd_ne (Ne.symm nfc)]
            exact g7.keep _ _ e6c fun ps z => by cases z
          · rw [upd_same, List.reverse_cons, List.reverse_cons, iV, iV, List.map_append, List.map_append]
            rfl
          · exact w5.trans (g6.w.trans (g7.w.trans (Gw.upd g7.tk (g7.keep _ _ e6f fun ps z => by cases z) (fun ps z => by cases z) fun q z => by cases z)))
/-! ### reached -/
def spReach (Cp : Addr) : Sp := fun vs H Q _ => ∃ (B : Amb) (p r g : Addr) (m : Nat) (ops : List Op) (gf : Int → Int → Int) (s : Int), vs = [.ref p, .int s] ∧ TK B H ∧ PipeAt Cp H p r g m ops gf ∧ m ≤ 60 ∧ s ∈ places m ∧
  ∀ v H' (S : Int → Bool), Gr B H H' → S s = true → Closed (places m) ops gf S → (∀ S0 : Int → Bool, S0 s = true → Closed (places m) ops gf S0 → ∀ x, S x = true → S0 x = true) → Is B.X H' v (.tuple (iD ((places m).filter S))) → Q v H'
theorem scReach : FnScope ["self", "start", "found", "left", "other"] ["self", "start"] (defScope sReach) := ⟨rfl, rfl, rfl, by decide +kernel, rfl, by decide +kernel, by decide +kernel⟩
/-- what was seen, what is left to look from (cur: what is looked from now) -/
structure Seen (V : List Int) (ops : List Op) (gf : Int → Int → Int) (s : Int) (seen left : List Int) (cur : Int → Prop) : Prop where
  nd : seen.Nodup
  sub : ∀ x ∈ seen, x ∈ V
  st : s ∈ seen
  lsub : ∀ x ∈ left, x ∈ seen
  clo : ∀ x ∈ seen, x ∉ left → ¬ cur x → ∀ y ∈ V, more ops gf x y → y ∈ seen
  min : ∀ S0 : Int → Bool, S0 s = true → Closed V ops gf S0 → ∀ x ∈ seen, S0 x = true
def kvS (ks : List Int) : List (Key × V) := ks.map fun y => ((Sum.inl y : Key), V.int 1)
theorem kvS_is (ks : List Int) (y : Int) : (valV (kvS ks) (Sum.inl y : Key)).isSome = decide (y ∈ ks) := by
  induction ks with
  | nil => rfl
  | cons p ks ih =>
    show (valV (((Sum.inl p : Key), V.int 1) :: kvS ks) (Sum.inl y : Key)).isSome = _
    by_cases h : p = y
    · rw [valV_pos (by rw [h])]
      simp [h]
    · rw [valV_neg (fun z => h (Sum.inl.inj z)), ih]
      have h' : ¬ y = p := fun z => h z.symm
      simp [h']
theorem kvS_put {ks : List Int} {y : Int} (h : y ∉ ks) : putK (kvS ks) (Sum.inl y) (V.int 1) = kvS (ks ++ [y]) := by
  have : valV (kvS ks) (Sum.inl y : Key) = none := by
    cases e : valV (kvS ks) (Sum.inl y : Key) with
    | none => rfl
    | some v =>
      have := kvS_is ks y
      rw [e, decide_eq_false h] at this
      cases this
  rw [putK_new _ this]
  unfold kvS
  rw [List.map_append]
  rfl
theorem sorted_places {m : Nat} {seen ys : List Int} (nd : seen.Nodup) (sub : ∀ x ∈ seen, x ∈ places m) (hp : ys.Perm seen) (hs : ys.Pairwise (· ≤ ·)) : ys = (places m).filter fun x => decide (x ∈ seen) := by
  have h1 : ((places m).filter fun x => decide (x ∈ seen)).Perm seen := by
    refine (List.perm_ext_iff_of_nodup ((nodup_places m).sublist List.filter_sublist) nd).mpr fun a => ?_
    rw [List.mem_filter]
    exact ⟨fun z => of_decide_eq_true z.2, fun z => ⟨sub a z, decide_eq_true z⟩⟩
  have h2 : (places m).Pairwise (· ≤ ·) := by
    unfold places
    rw [List.pairwise_map]
    exact List.Pairwise.imp (fun h => by omega) List.pairwise_lt_range
  refine List.Perm.eq_of_pairwise (le := (· ≤ ·)) (fun a b _ _ h1 h2 => Int.le_antisymm h1 h2) hs (h2.sublist List.filter_sublist) (hp.trans h1.symm)
/-- the search under way: c the dict, a the list -/
structure ReachSt (B : Amb) (c a : Addr) (H1 H' : Hp) (seen left : List Int) : Prop where
  hc : H' c = some (.dK (kvS seen))
  ha : H' a = some (.lst (iV left))
  gw : Gw (B.plus [c, a]) [c, a] H1 H'
theorem ReachSt.mono {B : Amb} {c a : Addr} {H1 H' H'' : Hp} {seen left : List Int} (S : ReachSt B c a H1 H' seen left) (g : Gr (B.plus [c, a]) H' H'') : ReachSt B c a H1 H'' seen left :=
  ⟨g.keep _ _ S.hc (fun ps z => by cases z), g.keep _ _ S.ha (fun ps z => by cases z), S.gw.trans g.w⟩
theorem len_kvS (ks : List Int) : (kvS ks).length = ks.length := List.length_map _
theorem last_of {α : Type} {l : List α} (h : l ≠ []) : ∃ r x, l = r ++ [x] := ⟨l.dropLast, l.getLast h, (List.dropLast_concat_getLast h).symm⟩
theorem ok_reach {f : Addr} {fd : FuncData} (F : Fun K "reached" "Pipes.reached" sReach f fd) (X : PTx K mg Cp fM fF fdM fdF) : FnOk P w K mg base CX0 3 f fd ["self", "start"] (spReach Cp) := by
  refine F.ok scReach (fun vs H Q E h => ?_) (fun cdv A outer s H vs Q E hr h => ?_)
  · obtain ⟨B, p, r, g, m, ops, gf, st, rfl, _⟩ := h
    rfl
  · obtain ⟨B, p, r, g, m, ops, gf, st, rfl, tk, PA, hm, hs, k⟩ := h
    have hu := hu_of hr
    have hu64 := hr.units
    refine ⟨_, pss_S, ?_⟩
    -- found, left = ({start: 1}, [start])
    refine ss_cons (of_ps (ps_par (i := 2) (j := 3) rfl scReach.nd rfl rfl (by decide) rfl rfl (pa_cons (pe_disp (pps_cons (pv 1) pe_int pps_nil) rfl rfl (by decide) (by decide)) (pa_cons (pe_lst (pa_cons (pv 1) pa_nil)) pa_nil)) rfl) ?_)
    intro c hc
    refine ⟨_, rfl, upd_same, [((Sum.inl st : Key), V.int 1)], rfl, (by show 1 ≤ 15; decide), ?_⟩
    refine ⟨_, rfl, (by show 1 ≤ sizeLine; decide), fun a ha => ⟨_, _, rfl, ?_⟩⟩
    have nac : a ≠ c := fun z => by rw [z, upd_same] at ha; cases ha
    rw [upd_ne nac, upd_ne nac] at ha
    have ec : (upd (upd (upd H c (.dK [])) c (.dK (mergeK [] [((Sum.inl st : Key), V.int 1)]))) a (.lst [V.int st])) c = some (.dK (kvS [st])) := by
      rw [upd_ne (Ne.symm nac), upd_same]
      rfl
    have ea : (upd (upd (upd H c (.dK [])) c (.dK (mergeK [] [((Sum.inl st : Key), V.int 1)]))) a (.lst [V.int st])) a = some (.lst (iV [st])) := upd_same
    have g1 : Gr B H (upd (upd (upd H c (.dK [])) c (.dK (mergeK [] [((Sum.inl st : Key), V.int 1)]))) a (.lst [V.int st])) := .ext tk fun b o e => by
      rw [upd_ne (ne_of_none e ha), upd_ne (ne_of_none e hc), upd_ne (ne_of_none e hc)]
      exact e
    generalize hH1 : (upd (upd (upd H c (.dK [])) c (.dK (mergeK [] [((Sum.inl st : Key), V.int 1)]))) a (.lst [V.int st])) = H1 at ec ea g1
    have tk1 : TK (B.plus [c, a]) H1 := g1.tk.plus fun b hb => by
      simp at hb
      rcases hb with e | e
      · rw [e, ec]; exact fun z => by cases z
      · rw [e, ea]; exact fun z => by cases z
    have hcaN : ∀ b ∈ [c, a], H b = none := fun b hb => by
      simp at hb
      rcases hb with e | e
      · rw [e]; exact hc
      · rw [e]; exact ha
    have grB : ∀ {H'}, Gw (B.plus [c, a]) [c, a] H1 H' → Gr B H H' := fun g => (Gw.minus g).gr g1 hcaN
    -- while left != []
    refine ss_cons (s_while (fun mm σ' H' => ∃ (seen left : List Int) (o1 : Option V), mm = 2 * (m - seen.length) + left.length ∧ σ' = [some (.ref p), some (.int st), some (.ref c), some (.ref a), o1] ∧ ReachSt B c a H1 H' seen left ∧ Seen (places m) ops gf st seen left (fun _ => False) ∧ left.length ≤ seen.length)
      PassesOwn.never (2 * (m - 1) + 1) ⟨[st], [st], none, rfl, rfl, ⟨ec, ea, (Gr.refl tk1).w⟩, ⟨by simp, fun x hx => by simp at hx; rw [hx]; exact hs, by simp, fun x hx => hx, fun x hx hn => absurd hx hn, fun S0 h0 _ x hx => by simp at hx; rw [hx]; exact h0⟩, Nat.le_refl _⟩ ?_)
    rintro mm σ' H' ⟨seen, left, o1, rfl, rfl, S, N0, hll⟩
    refine (et_ne_nil hu64 (ex_var 3) S.ha).go S.gw.tk fun H2 g2 => ⟨fun hb N hN => ?_, fun hb => ?_⟩
    · have S2 := S.mono g2
      obtain ⟨left', x, rfl⟩ := last_of (l := left) (by simpa using hb)
      have hsl : ∀ {l : List Int}, l.Nodup → (∀ x ∈ l, x ∈ places m) → l.length ≤ m := fun {l} h1 h2 => by
        have := nodup_sub_len h1 h2
        rwa [len_places] at this
      have e2a : H2 a = some (.lst (iV left' ++ [V.int x])) := by rw [S2.ha, iV, List.map_append]; rfl
      -- for other in self.ways_from(left.pop())
      refine ss_cons (s_forL PassesOwn.never rfl (of_pe (pe_meth (pv 0) X.T.cl X.mF (ok_from X.FF X.T X.rg X.FM X.bM X.mM) hr X.bF .nil pass0 (pa_cons pe_S pa_nil)) ?_))
      obtain ⟨⟨dx, ep⟩, _⟩ := PA.mono (grB S2.gw)
      refine ⟨_, rfl, p, dx, _, rfl, ep, pfl_no _ _ _ (by decide +kernel) (by decide +kernel) (by decide +kernel), ?_⟩
      refine t_pop (B := B.plus [c, a]) S2.gw.tk (ex_var 3) e2a fun H3 g3 => ?_
      have S3 := S2.mono g3
      have e3a := g3.keep _ _ e2a fun ps z => by cases z
      have w4 := gw_a S3.gw.tk e3a rfl (xs' := iV left')
      have S4 : ReachSt B c a H1 (upd H3 a (.lst (iV left'))) seen left' := ⟨by rw [upd_ne (Ne.symm nac)]; exact S3.hc, upd_same, S3.gw.trans w4⟩
      refine ⟨B.plus [c, a], p, r, g, m, ops, gf, x, rfl, S4.gw.tk, PA.mono (grB S4.gw), by omega, fun v H5 g5 hv => ⟨B.plus [c, a], _, g5.tk, hv, ?_⟩⟩
      have S5 := S4.mono g5
      have hxs : x ∈ seen := N0.lsub x (List.mem_append_right _ List.mem_cons_self)
      refine ⟨.nm 4, fun i σ' H' => ∃ (seen' left'' : List Int) (o : Option V), σ' = [some (.ref p), some (.int st), some (.ref c), some (.ref a), o] ∧ ReachSt B c a H1 H' seen' left'' ∧ Seen (places m) ops gf st seen' left'' (fun y => y = x) ∧
        (∀ (j : Nat) y, j < i → (nexts m ops gf x)[j]? = some y → y ∈ seen') ∧ Gw (B.plus [c, a]) [c, a] H5 H' ∧ 2 * (m - seen'.length) + left''.length ≤ 2 * (m - seen.length) + left'.length ∧ left''.length + 1 ≤ seen'.length, eg_nm (fun C' e => by subst e; exact pg_name scReach.nd rfl (.inl rfl)), fun d _ => True.intro,
        ⟨seen, left', o1, rfl, S5, ⟨N0.nd, N0.sub, N0.st, fun y hy => N0.lsub y (List.mem_append_left _ hy), fun y hy hn hne => N0.clo y hy (fun z => (List.mem_append.mp z).elim hn fun z => hne (List.mem_singleton.mp z)) (fun z => z), N0.min⟩, fun j y hj => absurd hj (Nat.not_lt_zero _), (Gr.refl S5.gw.tk).w, Nat.le_refl _, by rw [List.length_append, List.length_singleton] at hll; exact hll⟩, fun i σ' H' _ ⟨_, _, _, _, _, _, _, gw, _⟩ => gw.x fun b hb => List.mem_append_left _ hb, ?_, ?_⟩
      · rintro i d σ' H' H6 σ2 hi ⟨seen', left'', o, rfl, S6, N6, hseen, gw6, hme, hlen⟩ g6 ⟨v, rfl, hv⟩
        obtain ⟨y, hy, rfl⟩ := iD_at hi
        rw [hv.int_eq]
        have S7 := S6.mono g6
        have hyV : y ∈ places m ∧ more ops gf x y := by
          have := List.mem_of_getElem? hy
          unfold nexts at this
          rw [List.mem_filter] at this
          exact ⟨this.1, of_decide_eq_true this.2⟩
        have hil : i < m := by
          have h1 := (List.getElem?_eq_some_iff.mp hy).1
          have h2 : (nexts m ops gf x).length ≤ (places m).length := List.length_filter_le _ _
          rw [len_places] at h2
          omega
        refine ss_cons (s_if ((et_knotin hu (ex_var 2) S7.hc (ex_var 4).int).go S7.gw.tk fun H8 g8 => ?_))
        have S8 := S7.mono g8
        rw [kvS_is]
        refine ⟨fun z => ?_, fun z => ss_nil (ss_nil ⟨seen', left'', _, rfl, S8, N6, fun j y' hj hy' => ?_, gw6.trans (g6.w.trans g8.w), hme, by omega⟩)⟩
        · have hny : y ∉ seen' := by simpa using z
          have hsl' := hsl N6.nd N6.sub
          refine ss_cons (s_kput hu S8.gw.tk (ex_var 2) (ex_var 4).int (ex_int ev_int) S8.hc (by rw [len_kvS]; omega) fun H9 g9 => ?_)
          have S9 := S8.mono g9
          have w9 := gw_c S9.gw.tk S9.hc rfl (kvs' := putK (kvS seen') (Sum.inl y) (V.int 1))
          have e9a : (upd H9 c (.dK (putK (kvS seen') (Sum.inl y) (V.int 1)))) a = some (.lst (iV left'')) := by rw [upd_ne nac]; exact S9.ha
          refine ss_cons (s_append (B := B.plus [c, a]) w9.tk (ex_var 3) (ex_var 4) e9a (by rw [List.length_map]; omega) fun H10 g10 => ss_nil (ss_nil ?_))
          have e10a := g10.keep _ _ e9a fun ps z => by cases z
          have e10c : H10 c = some (.dK (kvS (seen' ++ [y]))) := by
            rw [← kvS_put hny]
            exact g10.keep _ _ upd_same fun ps z => by cases z
          have w10 := gw_a g10.tk e10a rfl (xs' := iV left'' ++ [V.int y])
          have nd' : (seen' ++ [y]).Nodup := by
            rw [List.nodup_append]
            refine ⟨N6.nd, by simp, fun q hq q' hq' e => ?_⟩
            rw [List.mem_singleton.mp hq'] at e
            exact hny (e ▸ hq)
          have sub' : ∀ q ∈ seen' ++ [y], q ∈ places m := fun q hq => (List.mem_append.mp hq).elim (N6.sub q) fun z => by rw [List.mem_singleton.mp z]; exact hyV.1
          have hsl2 := hsl nd' sub'
          rw [List.length_append, List.length_singleton] at hsl2
          refine ⟨seen' ++ [y], left'' ++ [y], _, rfl, ⟨by rw [upd_ne (Ne.symm nac)]; exact e10c, by rw [upd_same, iV, iV, List.map_append]; rfl, S9.gw.trans (w9.trans (g10.w.trans w10))⟩,
            ⟨nd', sub', List.mem_append_left _ N6.st, fun q hq => (List.mem_append.mp hq).elim (fun z => List.mem_append_left _ (N6.lsub q z)) fun z => List.mem_append_right _ z, fun q hq hn hne y' hy' hmo => ?_, fun S0 h0 hC q hq => ?_⟩, fun j y' hj hy' => ?_, gw6.trans (g6.w.trans (g8.w.trans (g9.w.trans (w9.trans (g10.w.trans w10))))), ?_, ?_⟩
          · refine List.mem_append_left _ ((List.mem_append.mp hq).elim (fun z => N6.clo q z (fun z2 => hn (List.mem_append_left _ z2)) hne y' hy' hmo) fun z => absurd (List.mem_append_right left'' z) hn)
          · rcases List.mem_append.mp hq with z2 | z2
            · exact N6.min S0 h0 hC q z2
            · rw [List.mem_singleton.mp z2]
              exact hC x (N0.sub x hxs) y hyV.1 (N0.min S0 h0 hC x hxs) hyV.2
          · by_cases c1 : j < i
            · exact List.mem_append_left _ (hseen j y' c1 hy')
            · have : j = i := by omega
              subst this
              rw [hy] at hy'
              cases hy'
              exact List.mem_append_right _ List.mem_cons_self
          · simp only [List.length_append, List.length_singleton]
            omega
          · simp only [List.length_append, List.length_singleton]
            omega
        · by_cases c1 : j < i
          · exact hseen j y' c1 hy'
          · have : j = i := by omega
            subst this
            rw [hy] at hy'
            cases hy'
            simpa using z
      · rintro σ' H' ⟨seen', left'', o, rfl, S6, N6, hseen, gw6, hme, hlen⟩
        refine ss_nil (hN (2 * (m - seen'.length) + left''.length) _ _ (by rw [List.length_append, List.length_singleton]; omega) ⟨seen', left'', o, rfl, rfl, S6, ⟨N6.nd, N6.sub, N6.st, N6.lsub, fun q hq hn _ y hy hmo => ?_, N6.min⟩, by omega⟩)
        by_cases hq2 : q = x
        · subst hq2
          have : y ∈ nexts m ops gf q := List.mem_filter.mpr ⟨hy, decide_eq_true hmo⟩
          obtain ⟨j, hj⟩ := List.mem_iff_getElem?.mp this
          exact hseen j y (by rw [iD_len]; exact (List.getElem?_eq_some_iff.mp hj).1) hj
        · exact N6.clo q hq hn hq2 y hy hmo
    · have S2 := S.mono g2
      have hl0 : left = [] := by simpa using hb
      subst hl0
      have hsl : seen.length ≤ m := by
        have := nodup_sub_len N0.nd N0.sub
        rwa [len_places] at this
      -- return tuple(sorted(found))
      refine ss_cons (s_ret (of_pe (pe_callTy call_tuple_of rfl X.tp boot_tuple (pa_cons (pe_callB (call_sortedDI rfl) rfl X.sd PyProof.Rows.boot_sorted (pa_cons (pv 2) pa_nil)) pa_nil)) ⟨_, rfl, c, kvS seen, seen, rfl, .inl S2.hc, by unfold kvS; rw [List.map_map]; rfl, by omega, fun ys q hp hsd hq => ⟨q, iV ys, rfl, .inl ⟨.inl (.inl upd_same), fun l hl => ?_⟩⟩⟩))
      have gB := grB S2.gw
      have gq : Gr B H (upd H2 q (.lst (iV ys))) := gB.trans (.new gB.tk hq)
      have gl : Gr B H (upd (upd H2 q (.lst (iV ys))) l (.tup (iV ys))) := gq.trans (.new gq.tk hl)
      refine k _ _ (fun x => decide (x ∈ seen)) gl (decide_eq_true N0.st) (fun x hx y hy h1 h2 => decide_eq_true (N0.clo x (of_decide_eq_true h1) (by simp) (fun z => z) y hy h2)) (fun S0 h0 hC x hx => N0.min S0 h0 hC x (of_decide_eq_true hx)) ?_
      rw [← sorted_places N0.nd N0.sub hp hsd]
      have := ints_iss (H := upd (upd H2 q (.lst (iV ys))) l (.tup (iV ys))) (X := B.X) ys
      exact .tup upd_same (gq.tk.notX hl) this.1 this.2
end
end K22
end
section
set_option Elab.async false
set_option linter.all false
set_option maxRecDepth 100000
set_option maxHeartbeats 4000000
/-! K22Send: send of the pipes. -/
namespace K22
open PySem PySem.Spec PyProof.Rows L2 NdefX Pm
/-- the text of a generator expression, tested -/
def gtB (N fr : List Str) (sc scope : Scope) : Bool :=
  gscB N fr scope && scope.names.all (fun y => !decide (y.2 = .free) || decide (sc.names.lookup y.1 = some NameKind.cell) || decide (sc.names.lookup y.1 = some NameKind.free))
theorem gtxt {C : Cx} {c P : Addr} {scope : Scope} {N fr : List Str} {js : List Nat} (sc : Scope) (tab : GxR.TabB C.base C.mg c P) (h : gtB N fr sc scope = true) (code : C.env.code = .ref c := by rfl) (hsc : C.env.scope = sc := by rfl) (at_ : js.map (fun j => C.N[j]?) = fr.map some := by rfl) : GTxt C c P scope N fr js := by
  unfold gtB at h
  rw [Bool.and_eq_true] at h
  refine ⟨tab, code, gscope_by h.1, fun y hy e => ?_, at_⟩
  rw [hsc]
  have := List.all_eq_true.mp h.2 y hy
  simp only [Bool.or_eq_true, Bool.not_eq_true', decide_eq_true_eq, decide_eq_false_iff_not] at this
  exact this.elim (fun z => z.elim (fun z => absurd e z) .inl) .inr
/-- a def whose code object is known -/
structure FunC (K : PySem.W.Frag) (x qual : Str) (st : Stmt) (f c : Addr) (fd : FuncData) : Prop where
  ex : ∃ (oc : Value) (od : Option Addr) (kV doc pm : Value) (an : Option Addr) (ct : Value) (osl : Array (Option Value)),
    fd = PySem.W.fnOf x qual (defArgs st) (defBody st) (defScope st) .none kV doc pm an (.ref c) ct ∧ K.lookup f = some ⟨oc, od, .func fd, osl⟩ ∧ PySem.W.codeIn K (.ref c) qual = true
  kp : PySem.W.keepIn K (.ref f) = true
section
variable {P : Program} {w : World} {K : PySem.W.Frag} {mg : Str → Option Value} {base : Heap}
theorem FunC.fn {x qual : Str} {st : Stmt} {f c : Addr} {fd : FuncData} (F : FunC K x qual st f c fd) : Fun K x qual st f fd := by
  obtain ⟨oc, od, kV, doc, pm, an, ct, osl, h⟩ := F.ex
  exact ⟨⟨oc, od, kV, doc, pm, an, .ref c, ct, osl, h⟩, F.kp⟩
theorem FunC.ok {x qual : Str} {st : Stmt} {f c : Addr} {fd : FuncData} {N ps : List Str} {k : Nat} {sp : Sp} (F : FunC K x qual st f c fd) (S : FnScope N ps (defScope st)) (len : ∀ vs H Q E, sp vs H Q E → vs.length = ps.length)
    (hbody : ∀ (A : Around) (outer : List Env) (s : Shared) (H : Hp) (vs : List V) (Q : VK) (E : XK), Room k (A.deeper (envOfC qual (defScope st) s.heap.objs.size f (.ref c))) → sp vs H Q E →
      ∃ t, PSs (cxOf CX0 P w K mg base N qual (defScope st) f (.ref c) A outer s H E).nox (defBody st) t ∧ t { nx := fun _ H' => Q .non H', rt := Q } (start N vs) H) : FnOk P w K mg base CX0 (k + 1) f fd ps sp := by
  obtain ⟨oc, od, kV, doc, pm, an, ct, osl, rfl, lk, hcd⟩ := F.ex
  refine fn_of lk hcd S len fun A outer s H vs Q E hr hsp => ?_
  obtain ⟨t, h, q⟩ := hbody A outer s H vs Q E hr hsp
  exact ⟨t, h.nox, q⟩
theorem FunC.okX {x qual : Str} {st : Stmt} {f c : Addr} {fd : FuncData} {N ps : List Str} {k : Nat} {sp : Sp} (F : FunC K x qual st f c fd) (S : FnScope N ps (defScope st)) (len : ∀ vs H Q E, sp vs H Q E → vs.length = ps.length)
    (hbody : ∀ (A : Around) (outer : List Env) (s : Shared) (H : Hp) (vs : List V) (Q : VK) (E : XK), Room k (A.deeper (envOfC qual (defScope st) s.heap.objs.size f (.ref c))) → sp vs H Q E →
      ∃ t, PSs (cxOf (L2.CX P w) P w K mg base N qual (defScope st) f (.ref c) A outer s H E) (defBody st) t ∧ t { nx := fun _ H' => Q .non H', rt := Q } (start N vs) H) : FnOk P w K mg base (L2.CX P w) (k + 1) f fd ps sp := by
  obtain ⟨oc, od, kV, doc, pm, an, ct, osl, rfl, lk, hcd⟩ := F.ex
  exact fn_of lk hcd S len fun A outer s H vs Q E hr hsp => hbody A outer s H vs Q E hr hsp
end
theorem len_put_old {κ : Type} [DecidableEq κ] {kvs : List (κ × V)} {k : κ} {v : V} (h : (valV kvs k).isSome = true) : (putK kvs k v).length = kvs.length := by
  unfold putK
  rw [valV_any, if_pos h, List.length_map]
/-- no data stand where neither list nor tuple stands -/
theorem Is.apart {X Y : List Addr} {H : Hp} {v : V} {d : PyData} (h : Is X H v d) (hY : ∀ a ∈ Y, a ∈ X ∨ ∃ o, H a = some o ∧ (∀ xs, o ≠ .lst xs) ∧ ∀ xs, o ≠ .tup xs) : Is Y H v d := by
  induction h with
  | non => exact .non
  | bl b => exact .bl b
  | int i => exact .int i
  | str x => exact .str x
  | lst e hx hl _ ih => exact .lst e (fun z => (hY _ z).elim hx fun ⟨o, q, n, _⟩ => by rw [q] at e; cases e; exact n _ rfl) hl ih
  | tup e hx hl _ ih => exact .tup e (fun z => (hY _ z).elim hx fun ⟨o, q, _, n⟩ => by rw [q] at e; cases e; exact n _ rfl) hl ih
section
variable {B : Amb} {C : Cx} {o i e : Expr} {D : Ends} {σ : L2.St} {H : Hp} {pos tpos : Pos} {r : Addr} {n : Nat} {T : Int → Int → Bool} {f : Int → Int → Int} {x y z : Int}
/-- d[pair] op= int -/
theorem s_daug {op : Operator} {rd : V → V → Hp → VK → Prop} (F : Int → Int → Int) (hop : InOp C op rd) (hrd : ∀ a b H (Q : VK), Q (.int (F a b)) H → rd (.int a) (.int b) H Q) (hu : C.A.units + 1 < cLine) (tk : TK B H) (ho : EX B C o σ H (.ref r)) (hi : EVP B C i σ H fun v H2 => IsKey H2 v x y) (hv : EV B C e σ H (.int z)) (d : DH H r n T f) (hT : T x y = true) (hn : n ≤ 1000)
    (k : ∀ H', Gw B [r] H H' → DH H' r n T (fun x' y' => if x' = x ∧ y' = y then F (f x y) z else f x' y') → D.nx σ H')
    (ha : ∀ ov iv new, augStore i ov iv new = (do holding [new, ov, iv] (setItem ov iv new); release [new, ov, iv] []; pure .next) := by intros; rfl) : sS C (.AugAssign (.Subscript o i tpos) op e pos) D σ H :=
  of_ps (ps_daug hu pe_S pe_S pe_S hop ha) (ho.go tk fun w H2 g2 ew => hi H2 g2 _ fun u H3 g3 hk => by
    subst ew
    obtain ⟨kvs, e3, hl, hq⟩ := (d.mono (g2.trans g3)).ex
    have hval : valV kvs (pk x y) = some (.int (f x y)) := by rw [hq, if_pos hT]
    refine ⟨r, .int (f x y), rfl, by rw [← hval]; exact dget_of e3 hk, hv H3 (g2.trans g3) _ fun v H4 g4 hv2 => ?_⟩
    rw [hv2.int_eq]
    refine hrd _ _ _ _ ?_
    have g := g2.trans (g3.trans g4)
    have e4 := g4.keep _ _ e3 fun ps z => by cases z
    obtain ⟨b, rfl, eb⟩ := hk.mono g4
    refine ⟨_, .t (k := pk x y) e4 eb (small1000 (by omega)), k _ (g.w.trans (.upd g4.tk e4 (fun ps z => by cases z) fun q z => by cases z)) ?_⟩
    refine ⟨_, upd_same, by rw [len_put_old (by rw [hval]; rfl)]; exact hl, fun x' y' => ?_⟩
    rw [valV_put]
    by_cases h : x' = x ∧ y' = y
    · rw [if_pos (by rw [pk_inj]; exact h), if_pos h, h.1, h.2, if_pos hT]
    · rw [if_neg (by rw [pk_inj]; exact h), hq, if_neg h])
end
section
variable {P : Program} {w : World} {K : PySem.W.Frag} {mg : Str → Option Value} {base : Heap} {Cp fM fF fW : Addr} {fdM fdF fdW : FuncData}
/-- way called -/
theorem evp_way {B : Amb} {C : Cx} {k : Nat} {o e e2 : Expr} {σ : L2.St} {H : Hp} {apos pos : Pos} {p r g : Addr} {m : Nat} {ops : List Op} {gf : Int → Int → Int} {s t : Int} (hK : C.K = K) (hmg : C.mg = mg) (X : PTx K mg Cp fM fF fdM fdF) (FW : Fun K "way" "Pipes.way" sWay fW fdW) (bW : Binds K fdW ["self", "start", "end"] []) (mW : Meth K Cp "way" fW) (hr : Room (k + 3) C.A) (PA : PipeAt Cp H p r g m ops gf) (hm : m ≤ 900) (hs : s ∈ places m) (ho : EX B C o σ H (.ref p)) (he : EV B C e σ H (.int s)) (he2 : EV B C e2 σ H (.int t))
    (hst : starEach [e, e2] C.env = (false, eval e C.env) :: starEach [e2] C.env := by rfl) (hst2 : starEach [e2] C.env = (false, eval e2 C.env) :: starEach [] C.env := by rfl) (hpl : (backTo pos (starEach [e2] C.env)).any (·.1) = false := by rfl) {pl : Sem Bool}
    (ht : eval (.Call (.Attribute o "way" apos) [e, e2] [] pos) C.env = (do
      let ov ← eval o C.env
      standAt apos.atName
      let (f, first) ← holding [ov] (getMethod ov "way" pl)
      callWith pos f first (backTo pos (starEach [e, e2] C.env)) (backToKw pos (keywordEach [] C.env))) := by rfl) :
    EVP B C (.Call (.Attribute o "way" apos) [e, e2] [] pos) σ H fun v H' => (v = .non ∧ ∃ S : Int → Bool, S s = true ∧ S t = false ∧ Closed (places m) ops gf S) ∨ ∃ w, Way (places m) ops gf s t w ∧ Is B.X H' v (.list (iD w)) := by
  subst hK hmg
  obtain ⟨⟨dx, e1⟩, _⟩ := id PA
  refine evp_meth (ok_way FW X) (hr.mono (by omega)) bW pass0 X.T.cl mW ho e1 (pfl_no _ _ _ (by decide +kernel) (by decide +kernel) (by decide +kernel)) (eap_d he (eap_d he2 eap_nil hst2) hst) (fun H2 vs Q g2 hvs q => ?_) hst hpl ht
  obtain ⟨v, ws, rfl, hv, v2, ws2, rfl, hv2, rfl⟩ := hvs
  rw [hv.int_eq, hv2.int_eq]
  exact ⟨B, p, r, g, m, ops, gf, s, t, rfl, g2.tk, PA.mono g2, hm, hs, fun v H3 g3 h => q v H3 g3 h⟩
def spSend (Cp PS : Addr) : Sp := fun vs H Q _ => ∃ (B : Amb) (p r g : Addr) (m : Nat) (ops : List Op) (s t : Int), vs = [.ref p, .int s, .int t] ∧ TK B H ∧ PS ∈ B.TG ∧ PipeAt Cp H p r g m ops (fun _ _ => 0) ∧ m ≤ 900 ∧ s ∈ places m ∧ s ≠ t ∧ (∀ o ∈ ops, 0 ≤ o.2.2) ∧ ops.length ≤ 400 ∧
  ∀ H' whole (gf : Int → Int → Int) (S : Int → Bool), Gw B [g] H H' → PipeAt Cp H' p r g m ops gf → Flow (places m) ops s t gf whole → S s = true → S t = false → Closed (places m) ops gf S → Q (.int whole) H'
theorem scSend : FnScope ["self", "start", "end", "whole", "way", "steps", "much", "one", "other"] ["self", "start", "end"] (defScope sSend) := ⟨rfl, rfl, rfl, by decide +kernel, rfl, by decide +kernel, by decide +kernel⟩
theorem cut1 {w : List Int} : cutV (iV w) (some 1) none = iV w.tail := by
  unfold cutV
  have h1 : HT.sIx (iV w).length 0 (some 1) = min 1 (iV w).length := HT.sIx_nat _ _ 1
  rw [h1, HT.sIx_none]
  cases w with
  | nil => rfl
  | cons a r =>
    have : min 1 (iV (a :: r)).length = 1 := by rw [iV, List.map_cons, List.length_cons]; omega
    rw [this]
    show (iV r).take ((V.int a :: iV r).length - 1) = iV r
    rw [List.length_cons]
    exact List.take_length
/-- list(zip(way, way[1:])) -/
theorem ev_steps {B : Amb} {C : Cx} {o o2 : Expr} {σ : L2.St} {H : Hp} {p p2 p3 p4 p5 pos pos2 : Pos} {j : Nat} {w : List Int} {a : Addr} (hc : C.calm = true) (hg : Gl C "list") (hm : C.mg "list" = none) (hg2 : Gl C "zip") (hm2 : C.mg "zip" = none) (ho : EX B C o σ H (.ref a)) (ho2 : EX B C o2 σ H (.ref a)) (hw : H a = some (.lst (iV w)))
    (hs : starEach [o, .Subscript o2 (.Slice (some (.Constant (.int 1) j p3)) none none p4) p5] C.env = (false, eval o C.env) :: starEach [.Subscript o2 (.Slice (some (.Constant (.int 1) j p3)) none none p4) p5] C.env := by rfl)
    (hs1 : starEach [.Subscript o2 (.Slice (some (.Constant (.int 1) j p3)) none none p4) p5] C.env = (false, eval (.Subscript o2 (.Slice (some (.Constant (.int 1) j p3)) none none p4) p5) C.env) :: starEach [] C.env := by rfl)
    (hpl : (backTo pos2 (starEach [.Subscript o2 (.Slice (some (.Constant (.int 1) j p3)) none none p4) p5] C.env)).any (·.1) = false := by rfl)
    (hs2 : starEach [.Call (.Name "zip" p2) [o, .Subscript o2 (.Slice (some (.Constant (.int 1) j p3)) none none p4) p5] [] pos2] C.env = (false, eval (.Call (.Name "zip" p2) [o, .Subscript o2 (.Slice (some (.Constant (.int 1) j p3)) none none p4) p5] [] pos2) C.env) :: starEach [] C.env := by rfl) :
    EV B C (.Call (.Name "list" p) [.Call (.Name "zip" p2) [o, .Subscript o2 (.Slice (some (.Constant (.int 1) j p3)) none none p4) p5] [] pos2] [] pos) σ H (.list ((steps w).map pD)) := fun H1 g Q q => by
  refine of_pe (pe_listZip hc hg hm hg2 hm2 (pa_cons pe_S (pa_cons (pe_slice sl_list pe_S (po_some pe_int) po_none) pa_nil hs1) hs) hs hpl hs2) (ho H1 g _ fun v H2 g2 ev => ?_)
  subst ev
  refine ho2 H2 (g.trans g2) _ fun v H3 g3 ev => ?_
  subst ev
  have e3 : H3 a = some (.lst (iV w)) := (g.trans (g2.trans g3)).keep _ _ hw fun ps z => by cases z
  refine ⟨1, rfl, a, iV w, rfl, .inl (.inl e3), fun b hb => ?_⟩
  rw [cut1]
  have g4 := Gr.new (o := .lst (iV w.tail)) g3.tk hb
  have e4 : (upd H3 b (.lst (iV w.tail))) a = some (.lst (iV w)) := g4.keep _ _ e3 fun ps z => by cases z
  refine ⟨a, b, iV w, iV w.tail, rfl, .inl (.inl e4), .inl (.inl upd_same), fun H5 l Ts gr hl el hlen hT => ?_⟩
  have g5 : Gr B (upd H3 b (.lst (iV w.tail))) H5 := .ext g4.tk gr
  refine q _ H5 (g2.trans (g3.trans (g4.trans g5))) (.lst el (g4.tk.notX hl) ?_ fun i v d h1 h2 => ?_)
  · rw [List.length_map, List.length_map, hlen]
    unfold steps
    rw [List.length_zip, List.length_map, List.length_map]
  · rw [List.getElem?_map] at h1 h2
    cases eT : Ts[i]? with
    | none => rw [eT] at h1; cases h1
    | some Ta =>
      rw [eT] at h1
      cases h1
      obtain ⟨x, y, hx, hy, hn, hTt⟩ := hT i Ta eT
      rw [List.getElem?_map] at hx hy
      cases es : (steps w)[i]? with
      | none => rw [es] at h2; cases h2
      | some pr =>
        rw [es] at h2
        cases h2
        unfold steps at es
        obtain ⟨e1, e2⟩ := List.getElem?_zip_eq_some.mp es
        rw [e1] at hx
        rw [e2] at hy
        cases hx
        cases hy
        have h := (Iss.cons (X := B.X) (H := H5) (Is.int pr.1) (Iss.cons (Is.int pr.2) Iss.nil))
        exact .tup hTt (g4.tk.notX hn) h.1 h.2
/-- an int made of a pair -/
def oM (f : Int → Int → Int) : PyData → Option PyData
  | .tuple [.int x, .int y] => some (.int (f x y))
  | _ => none
theorem oM_pD (f : Int → Int → Int) (p : Int × Int) : oM f (pD p) = some (.int (f p.1 p.2)) := rfl
theorem oM_all (f : Int → Int → Int) : ∀ ps : List (Int × Int), (ps.map pD).filterMap (oM f) = (ps.map fun p => f p.1 p.2).map PyData.int
  | [] => rfl
  | p :: ps => by
    rw [List.map_cons, List.filterMap_cons, oM_pD, List.map_cons, List.map_cons, oM_all f ps]
theorem touch_sym {ops : List Op} {x y : Int} (h : touch ops x y = true) : touch ops y x = true := by rw [← touch_symm]; exact h
theorem ok_send {f c PS : Addr} {fd : FuncData} (F : FunC K "send" "Pipes.send" sSend f c fd) (TB : GxR.TabB base mg c PS) (X : PTx K mg Cp fM fF fdM fdF) (FW : Fun K "way" "Pipes.way" sWay fW fdW) (bW : Binds K fdW ["self", "start", "end"] []) (mW : Meth K Cp "way" fW) : FnOk P w K mg base CX0 4 f fd ["self", "start", "end"] (spSend Cp PS) := by
  refine F.ok scSend (fun vs H Q E h => ?_) (fun A outer s H vs Q E hr h => ?_)
  · obtain ⟨B, p, r, g, m, ops, st, t, rfl, _⟩ := h
    rfl
  · obtain ⟨B, p, r, g, m, ops, st, t, rfl, tk, hPS, PA0, hm, hs, hst, hpos, hops, k⟩ := h
    have hu := hu_of hr
    refine ⟨_, pss_S, ?_⟩
    -- whole = 0
    refine ss_cons (s_set 3 scSend.nd (ev_int.go tk fun v H1 g1 hv => ?_))
    rw [hv.int_eq]
    have PA1 := PA0.mono g1
    -- way = self.way(start, end)
    refine ss_cons (s_set 4 scSend.nd ((evp_way rfl rfl X FW bW mW (k := 0) hr PA1 hm hs (ex_var 0) (ex_var 1).int (ex_var 2).int).go g1.tk fun v H2 g2 hv => ?_))
    have PA2 := PA1.mono g2
    -- while way is not None
    refine ss_cons (s_while (fun mm σ' H' => ∃ (gf : Int → Int → Int) (whole : Int) (v : V) (o1 o2 o3 o4 : Option V), mm = ((sm (places m) fun y => cap ops st y) - whole).toNat ∧ σ' = [some (.ref p), some (.int st), some (.int t), some (.int whole), some v, o1, o2, o3, o4] ∧ Gw B [g] H H' ∧ PipeAt Cp H' p r g m ops gf ∧ Flow (places m) ops st t gf whole ∧
        ((v = .non ∧ ∃ S : Int → Bool, S st = true ∧ S t = false ∧ Closed (places m) ops gf S) ∨ ∃ w, Way (places m) ops gf st t w ∧ Is B.X H' v (.list (iD w))))
      PassesOwn.never _ ⟨fun _ _ => 0, 0, v, none, none, none, none, rfl, rfl, (g1.trans g2).w, PA2, flow_zero hpos, hv⟩ ?_)
    rintro mm σ' H' ⟨gf, whole, v, o1, o2, o3, o4, rfl, rfl, gw, PA, FL, hv⟩
    rcases hv with ⟨rfl, S, hS1, hS2, hC⟩ | ⟨wy, WY, hwy⟩
    · -- no way
      refine (et_cmp co_notN (EVP.non (ex_var 4)) ev_non).go gw.tk fun H3 g3 => ⟨fun z => (by cases z), fun _ => ?_⟩
      refine ss_cons (s_ret ((ex_var 3).int.go g3.tk fun v H4 g4 hv => ?_))
      rw [hv.int_eq]
      exact k H4 whole gf S (gw.trans (g3.trans g4).w) (PA.mono (g3.trans g4)) FL hS1 hS2 hC
    · obtain ⟨aw, vsw, rfl, eaw, haw, isw⟩ := hwy.list_at
      have evs := isw.ints
      subst evs
      refine (et_cmp (d := .list (iD wy)) co_notN (ev_var 4) ev_non).go gw.tk fun H3 g3 => ⟨fun _ N hN => ?_, fun z => (by cases z)⟩
      have e3w := g3.keep _ _ eaw fun ps z => by cases z
      have PA3 := PA.mono g3
      have hsteps : steps wy ≠ [] := by
        intro z
        have h1 := WY.first
        have h2 := WY.last
        match wy, h1, h2, z with
        | [], h1, _, _ => simp at h1
        | [a], h1, h2, _ =>
          simp at h1 h2
          exact hst (h1.symm.trans h2)
        | a :: b :: rr, _, _, z => rw [steps_two] at z; cases z
      have hwl : wy.length ≤ m := by
        have := nodup_sub_len WY.nd WY.inV
        rwa [len_places] at this
      have hsl : (steps wy).length ≤ m := by
        unfold steps
        rw [List.length_zip]
        omega
      -- steps = list(zip(way, way[1:]))
      refine ss_cons (s_set 5 scSend.nd (EV.go g3.tk (ev_steps rfl rfl X.ls rfl X.zp (ex_var 4) (ex_var 4) e3w) fun vS H4 g4 hvS => ?_))
      have PA4 := PA3.mono g4
      -- much = min(self.more_room(one, other) for one, other in steps)
      refine ss_cons (s_set 6 scSend.nd (EVP.go g4.tk (evp_gen1 (B := B) .min (k := 2) (PV := fun v => ∃ mu, v = .int mu ∧ IsMin ((steps wy).map fun p => cap ops p.1 p.2 - gf p.1 p.2) mu) (N := [".0", "self", "one", "other"]) (fr := ["self"]) (js := [0]) (pat := .two (.nm 2) (.nm 3)) (xs := (steps wy).map pD)
        (outs := oM fun x y => cap ops x y - gf x y) (hr.mono (by decide)) rfl X.mn (gtxt (defScope sSend) TB (by decide +kernel)) hPS (ei_list (ev_var 5)) ?_ ?_ ?_ (fun σ => ∃ a b, σ = [none, some (.ref p), a, b]) ⟨none, none, rfl⟩ ?_ ?_) fun vm H5 g5 hvm => ?_))
      · exact eg_gt (eg_gn (by decide +kernel) rfl rfl) (eg_gn (by decide +kernel) rfl rfl)
      · intro d hd
        obtain ⟨pr, _, rfl⟩ := List.mem_map.mp hd
        exact ⟨_, _, rfl, True.intro, True.intro⟩
      · intro d hd d' hd'
        obtain ⟨pr, _, rfl⟩ := List.mem_map.mp hd
        rw [oM_pD] at hd'
        cases hd'
        exact .inr ⟨_, rfl⟩
      · rintro d hd H6 σ1 σ2 g6 ⟨a1, b1, rfl⟩ ⟨d1, d2, σ3, ed, ⟨v1, rfl, h1⟩, ⟨v2, rfl, h2⟩⟩
        obtain ⟨pr, hpr, rfl⟩ := List.mem_map.mp hd
        cases ed
        rw [h1.int_eq, h2.int_eq, oM_pD]
        refine ⟨⟨_, _, rfl⟩, item_all fun C' hC' => ?_⟩
        obtain ⟨A', s', H', cc, code, fp, pn, hA, rfl⟩ := hC'
        have PA6 := PA4.mono g6
        obtain ⟨⟨dx6, e6⟩, _⟩ := id PA6
        refine EVP.int (evp_meth (ok_more X.FM X.T) (hA.mono (by decide)) X.bM pass0 X.T.cl X.mM (ex_var 1) e6 (pfl_no _ _ _ (by decide +kernel) (by decide +kernel) (by decide +kernel)) (eap_x (ex_var 2) (eap_x (ex_var 3) eap_nil)) fun H7 vs Q g7 hvs q => ?_)
        obtain ⟨ws, rfl, ws2, rfl, rfl⟩ := hvs
        exact ⟨B, p, r, g, m, ops, gf, pr.1, pr.2, rfl, g7.tk, PA6.mono g7, (WY.goes pr hpr).1, fun H8 g8 => q _ H8 g8 rfl⟩
      · exact k_min (oM_all _ _) (by simpa using hsteps)
      obtain ⟨mu, rfl, hmin1, hmin2⟩ := hvm
      have PA5 := PA4.mono g5
      have hmu : 0 < mu := by
        obtain ⟨pr, hpr, e⟩ := List.mem_map.mp hmin1
        have := (WY.goes pr hpr).2
        omega
      obtain ⟨kg, eg, _⟩ := PA5.gg.ex
      have tkg : TK (B.plus [g]) H5 := g5.tk.plus fun b hb => by
        rw [List.mem_singleton.mp hb, eg]
        exact fun z => by cases z
      have hvS5 : Is (B.plus [g]).X H5 vS (.list ((steps wy).map pD)) := (hvS.mono g5).apart fun b hb => (List.mem_append.mp hb).elim (fun z => .inr (by
        rw [List.mem_singleton.mp z]
        exact ⟨_, eg, fun xs z => (by cases z), fun xs z => (by cases z)⟩)) .inl
      -- for one, other in steps
      refine ss_cons (s_for (B := B.plus [g]) tkg PassesOwn.never rfl (ei_list (ev_var 5 (hd := hvS5))) fun H6 g6 => ?_)
      have PA6 := PA5.mono g6
      obtain ⟨⟨dx6, e6⟩, d6r, d6g, ne6⟩ := id PA6
      have npg : p ∉ [g] := fun z => by
        obtain ⟨kvs, e, _⟩ := d6g.ex
        rw [List.mem_singleton.mp z, e] at e6; cases e6
      refine ⟨.two (.nm 7) (.nm 8), fun i σ' H' => ∃ (o3 o4 : Option V), σ' = [some (.ref p), some (.int st), some (.int t), some (.int whole), some (.ref aw), some vS, some (.int mu), o3, o4] ∧ Gw (B.plus [g]) [g] H6 H' ∧ DH H' g (2 * ops.length) (touch ops) (push gf mu ((steps wy).take i)),
        eg_two K (eg_nm fun C' e => by subst e; exact pg_name scSend.nd rfl (.inl rfl)) (eg_nm fun C' e => by subst e; exact pg_name scSend.nd rfl (.inl rfl)) (fun C' e => by subst e; rfl) (fun C' e => by subst e; rfl) (fun C' e => by subst e; exact ⟨rfl, rfl, rfl, rfl⟩), fun d hd => ?_, ⟨_, _, rfl, (Gr.refl g6.tk).w, by rw [List.take_zero, push_nil]; exact d6g⟩, fun i σ' H' _ ⟨_, _, _, gw, _⟩ => gw.x fun b hb => List.mem_append_left _ hb, ?_, ?_⟩
      · obtain ⟨pr, _, rfl⟩ := List.mem_map.mp hd
        exact ⟨_, _, rfl, True.intro, True.intro⟩
      · rintro i d σ' H' H7 σ2 hi ⟨o3, o4, rfl, gw7, d7⟩ g7 ⟨d1, d2, σ3, ed, ⟨v1, rfl, h1⟩, ⟨v2, rfl, h2⟩⟩
        rw [List.getElem?_map] at hi
        obtain ⟨pr, hpr, rfl⟩ : ∃ pr, (steps wy)[i]? = some pr ∧ d = pD pr := by
          cases e : (steps wy)[i]? with
          | none => rw [e] at hi; cases hi
          | some pr => rw [e] at hi; cases hi; exact ⟨pr, rfl, rfl⟩
        cases ed
        rw [h1.int_eq, h2.int_eq]
        have hmore := WY.goes pr (List.mem_of_getElem? hpr)
        have e7 := (gw7.trans g7.w).at e6 (fun ps z => by cases z) npg
        -- self.going[one, other] += much
        refine ss_cons (s_daug (fun a b => a + b) in_add (fun a b H Q q => ⟨a, b, rfl, rfl, q⟩) hu g7.tk (ex_fld (ex_var 0) e7 X.T.cl X.T.nG (pfl_g _ _ _)) (ek (ex_var 7).int (ex_var 8).int) (ex_var 6).int (d7.mono g7) hmore.1 (by omega) fun H8 w8 d8 => ?_)
        have e8 := w8.at e7 (fun ps z => by cases z) npg
        -- self.going[other, one] -= much
        refine ss_cons (s_daug (fun a b => a - b) in_sub (fun a b H Q q => ⟨a, b, rfl, rfl, q⟩) hu w8.tk (ex_fld (ex_var 0) e8 X.T.cl X.T.nG (pfl_g _ _ _)) (ek (ex_var 8).int (ex_var 7).int) (ex_var 6).int d8 (touch_sym hmore.1) (by omega) fun H9 w9 d9 => ss_nil ?_)
        refine ⟨_, _, rfl, gw7.trans (g7.w.trans (w8.trans w9)), d9.to (Nat.le_refl _) (fun _ _ => rfl) fun x y _ => ?_⟩
        have htk : (steps wy).take (i + 1) = (steps wy).take i ++ [pr] := by rw [List.take_add_one, hpr]; rfl
        rw [htk, push_snoc]
        unfold step1
        by_cases c1 : x = pr.2 ∧ y = pr.1
        · rw [if_pos c1, if_pos c1, c1.1, c1.2]
          by_cases c2 : pr.2 = pr.1 ∧ pr.1 = pr.2
          · rw [if_pos c2, if_pos c2, c2.1]
          · rw [if_neg c2, if_neg c2]
        · rw [if_neg c1, if_neg c1]
          by_cases c2 : x = pr.1 ∧ y = pr.2
          · rw [if_pos c2, if_pos c2, c2.1, c2.2]
          · rw [if_neg c2, if_neg c2]
      · rintro σ' H' ⟨o3, o4, rfl, gw7, d7⟩
        rw [List.length_map, List.take_length] at d7
        have gAll : Gw B [g] H H' := gw.trans ((g3.trans (g4.trans g5)).w.trans (g6.minus.w.trans (Gw.minus gw7)))
        have e7 := gw7.at e6 (fun ps z => by cases z) npg
        have PA7 : PipeAt Cp H' p r g m ops (push gf mu (steps wy)) := ⟨⟨dx6, e7⟩, d6r.w gw7 (fun z => ne6 (List.mem_singleton.mp z)), d7, ne6⟩
        have FL7 : Flow (places m) ops st t (push gf mu (steps wy)) (whole + mu) := flow_push (nodup_places m) FL WY hst (by omega) fun pr hpr => hmin2 _ (List.mem_map.mpr ⟨pr, hpr, rfl⟩)
        -- whole += much
        refine ss_cons (s_aug 3 scSend.nd ip_add rfl ((ex_var (B := B) 6).go gAll.tk fun v H8 g8 ev => ⟨whole, mu, rfl, ev, ?_⟩))
        have PA8 := PA7.mono g8
        -- way = self.way(start, end)
        refine ss_cons (s_set 4 scSend.nd (EVP.go g8.tk (evp_way rfl rfl X FW bW mW (k := 0) hr PA8 hm hs (ex_var 0) (ex_var 1).int (ex_var 2).int) fun v H9 g9 hv => ss_nil ?_))
        have hmost := flow_most FL7
        refine hN _ _ _ ?_ ⟨_, whole + mu, v, _, _, _, _, rfl, rfl, gAll.trans (g8.trans g9).w, PA8.mono g9, FL7, hv⟩
        omega
end
end K22
end
section
set_option Elab.async false
set_option linter.all false
set_option maxRecDepth 100000
set_option maxHeartbeats 4000000
/-! K22Wants: the class of wants: __init__, linked. -/
namespace K22
open PySem PySem.Spec PyProof.Rows L2 NdefX Pm
/-! ### in general -/
theorem EX.data {B : Amb} {C : Cx} {e : Expr} {σ : L2.St} {H : Hp} {v : V} {d : PyData} (h : EX B C e σ H v) (hd : Is B.X H v d) : EV B C e σ H d := fun H1 g Q q => h H1 g Q fun u H2 g2 eu => q u H2 g2 (by subst eu; exact hd.mono (g.trans g2))
theorem fm_map {α : Type} {enc : α → PyData} {outs : PyData → Option PyData} {f : α → PyData} (h : ∀ a, outs (enc a) = some (f a)) : ∀ xs : List α, (xs.map enc).filterMap outs = xs.map f
  | [] => rfl
  | a :: xs => by rw [List.map_cons, List.filterMap_cons, h, List.map_cons, fm_map h xs]
theorem fm_if {α : Type} {enc : α → PyData} {outs : PyData → Option PyData} {f : α → PyData} {p : α → Bool} (h : ∀ a, outs (enc a) = if p a = true then some (f a) else none) : ∀ xs : List α, (xs.map enc).filterMap outs = (xs.filter p).map f
  | [] => rfl
  | a :: xs => by
    rw [List.map_cons, List.filterMap_cons, h, List.filter_cons]
    by_cases c : p a = true
    · rw [if_pos c, if_pos c, List.map_cons, fm_if h xs]
    · rw [if_neg c, if_neg c, fm_if h xs]
/-- data made of a pair; of an int -/
def oP (F : Int → Int → PyData) : PyData → Option PyData
  | .tuple [.int x, .int y] => some (F x y)
  | _ => none
def oN (F : Int → PyData) : PyData → Option PyData
  | .int x => some (F x)
  | _ => none
theorem fmP (F : Int → Int → PyData) (ps : List (Int × Int)) : (ps.map pD).filterMap (oP F) = ps.map fun p => F p.1 p.2 := fm_map (enc := pD) (outs := oP F) (f := fun p => F p.1 p.2) (fun _ => rfl) ps
theorem fmN (F : Int → PyData) (ks : List Int) : (iD ks).filterMap (oN F) = ks.map F := fm_map (enc := PyData.int) (outs := oN F) (f := F) (fun _ => rfl) ks
def oT : PyData → Option PyData
  | .tuple ds => some (.tuple ds)
  | _ => none
/-- data past a change at something that is neither list nor tuple -/
theorem Is.past {B : Amb} {H H' : Hp} {p : Addr} {u : HO} {v : V} {d : PyData} (g : Gw B [p] H H') (hp : H p = some u) (h1 : ∀ xs, u ≠ .lst xs) (h2 : ∀ xs, u ≠ .tup xs) (h : Is B.X H v d) : Is B.X H' v d := by
  induction h with
  | non => exact .non
  | bl b => exact .bl b
  | int i => exact .int i
  | str x => exact .str x
  | lst e hx hl _ ih => exact .lst (g.keep _ _ e (fun ps z => by cases z) fun z => by rw [List.mem_singleton.mp z, hp] at e; cases e; exact h1 _ rfl) hx hl ih
  | tup e hx hl _ ih => exact .tup (g.keep _ _ e (fun ps z => by cases z) fun z => by rw [List.mem_singleton.mp z, hp] at e; cases e; exact h2 _ rfl) hx hl ih
/-- a block of a comprehension without captured names -/
def blkNF (N : List Str) (scope : Scope) (own : List (Str × Nat)) : Bool := blkB N { scope with names := [] } scope own && scope.names.all fun y => !decide (y.2 = .free)
theorem blk_nf {N : List Str} {sc scope : Scope} {own : List (Str × Nat)} (h : blkNF N scope own = true) : BlkOk N sc scope own := by
  unfold blkNF at h
  rw [Bool.and_eq_true] at h
  have b := blk_by h.1
  refine ⟨b.kind, b.uniq, b.ix, fun y hy e => ?_, b.own⟩
  have := List.all_eq_true.mp h.2 y hy
  simp [e] at this
theorem Is.updO {X : List Addr} {H : Hp} {p : Addr} {o u : HO} {v : V} {d : PyData} (hp : H p = some u) (h1 : ∀ xs, u ≠ .lst xs) (h2 : ∀ xs, u ≠ .tup xs) (h : Is X H v d) : Is X (upd H p o) v d := by
  induction h with
  | non => exact .non
  | bl b => exact .bl b
  | int i => exact .int i
  | str x => exact .str x
  | lst e hx hl _ ih => exact .lst (by rw [upd_ne (fun z => by rw [z, hp] at e; cases e; exact h1 _ rfl)]; exact e) hx hl ih
  | tup e hx hl _ ih => exact .tup (by rw [upd_ne (fun z => by rw [z, hp] at e; cases e; exact h2 _ rfl)]; exact e) hx hl ih
/-- tuples put together, whether empty or not -/
theorem ev_catT {B : Amb} {C : Cx} {a b : Expr} {σ : L2.St} {H : Hp} {pos : Pos} {ds es : List PyData} (ha : EV B C a σ H (.tuple ds)) (hb : EV B C b σ H (.tuple es)) (hl : ds.length + es.length ≤ sizeLine) : EV B C (.BinOp a .Add b pos) σ H (.tuple (ds ++ es)) := fun H1 g Q k =>
  of_pe (pe_op op_catA pe_S pe_S) (ha H1 g _ fun v H2 g2 hv => hb H2 (g.trans g2) _ fun u H3 g3 hu => by
    obtain ⟨p, xs, rfl, e1, x1, i1⟩ := (hv.mono g3).tup_at
    obtain ⟨r, ys, rfl, e2, x2, i2⟩ := hu.tup_at
    refine ⟨p, r, xs, ys, rfl, rfl, .inl (.inl e1), .inl (.inl e2), by rw [i1.1, i2.1]; exact hl, fun hx => ?_, fun hx hy => ?_, fun hx hy l hn => ?_⟩
    · subst hx
      have : ds = [] := List.length_eq_zero_iff.mp i1.1.symm
      subst this
      exact k _ _ (g2.trans g3) hu
    · subst hy
      have : es = [] := List.length_eq_zero_iff.mp i2.1.symm
      subst this
      refine k _ _ (g2.trans g3) ?_
      show Is B.X H3 (.ref p) (.tuple (ds ++ []))
      rw [List.append_nil]
      exact hv.mono g3
    · have gn := Gr.new (o := .tup (xs ++ ys)) g3.tk hn
      refine k _ _ (g2.trans (g3.trans gn)) ?_
      have j1 := i1.mono gn
      have j2 := i2.mono gn
      have j : Iss B.X (upd H3 l (.tup (xs ++ ys))) (xs ++ ys) (ds ++ es) := by
        refine ⟨by rw [List.length_append, List.length_append, j1.1, j2.1], fun i w e h1 h2 => ?_⟩
        by_cases c : i < xs.length
        · rw [List.getElem?_append_left c] at h1
          rw [List.getElem?_append_left (by rw [← j1.1]; exact c)] at h2
          exact j1.2 i w e h1 h2
        · rw [List.getElem?_append_right (by omega)] at h1
          rw [List.getElem?_append_right (by rw [← j1.1]; omega), ← j1.1] at h2
          exact j2.2 _ w e h1 h2
      exact .tup upd_same (g3.tk.notX hn) j.1 j.2)
/-! ### dict([(x, 1) ..]) -/
def oneD (r : Int) : PyData := .tuple [.int r, .int 1]
def ded : List Int → List Int → List Int
  | acc, [] => acc
  | acc, r :: rs => if r ∈ acc then ded acc rs else ded (acc ++ [r]) rs
theorem put_same {ks : List Int} {y : Int} (h : y ∈ ks) : putK (kvS ks) (Sum.inl y) (V.int 1) = kvS ks := by
  unfold putK
  rw [valV_any, if_pos (by rw [kvS_is, decide_eq_true h])]
  unfold kvS
  rw [List.map_map]
  refine List.map_congr_left fun a _ => ?_
  show (if (Sum.inl a : Key) = Sum.inl y then ((Sum.inl a : Key), V.int 1) else ((Sum.inl a : Key), V.int 1)) = _
  split <;> rfl
theorem merge_ded : ∀ (rs acc : List Int), mergeK (kvS acc) (kvS rs) = kvS (ded acc rs)
  | [], acc => rfl
  | r :: rs, acc => by
    show mergeK (putK (kvS acc) (Sum.inl r) (V.int 1)) (kvS rs) = _
    rw [ded]
    by_cases h : r ∈ acc
    · rw [if_pos h, put_same h, merge_ded rs acc]
    · rw [if_neg h, kvS_put h, merge_ded rs]
theorem ded_nodup : ∀ {rs acc : List Int}, (acc ++ rs).Nodup → ded acc rs = acc ++ rs
  | [], acc, _ => by rw [ded, List.append_nil]
  | r :: rs, acc, h => by
    rw [ded]
    have h1 : r ∉ acc := fun z => (List.nodup_append.mp h).2.2 r z r List.mem_cons_self rfl
    have e : acc ++ r :: rs = (acc ++ [r]) ++ rs := by simp
    rw [if_neg h1, e]
    exact ded_nodup (e ▸ h)
theorem ded_len : ∀ {rs acc : List Int}, acc.Nodup → (ded acc rs).length ≤ acc.length + rs.length ∧ ((ded acc rs).length = acc.length + rs.length → (acc ++ rs).Nodup)
  | [], acc, h => ⟨Nat.le_refl _, fun _ => by rw [List.append_nil]; exact h⟩
  | r :: rs, acc, h => by
    rw [ded]
    by_cases c : r ∈ acc
    · rw [if_pos c]
      have := (ded_len (rs := rs) h).1
      rw [List.length_cons]
      exact ⟨by omega, fun z => by omega⟩
    · rw [if_neg c]
      have h1 : (acc ++ [r]).Nodup := by
        rw [List.nodup_append]
        refine ⟨h, by simp, fun q hq q' hq' e => ?_⟩
        rw [List.mem_singleton.mp hq'] at e
        exact c (e ▸ hq)
      have h2 := ded_len (rs := rs) h1
      have e : acc ++ r :: rs = (acc ++ [r]) ++ rs := by simp
      rw [List.length_append, List.length_singleton] at h2
      rw [List.length_cons, e]
      exact ⟨by omega, fun z => h2.2 (by omega)⟩
/-- the list's pairs -/
theorem ones_at {X : List Addr} {H : Hp} : ∀ {vs : List V} {rs : List Int}, Iss X H vs (rs.map oneD) → ∃ ps : List Addr, vs = ps.map V.ref ∧ Paired (fun p kv => H p = some (.tup [kV kv.1, kv.2])) ps (kvS rs)
  | [], [], _ => ⟨[], rfl, .nil⟩
  | [], r :: rs, h => by have := h.1; simp at this
  | v :: vs, [], h => by have := h.1; simp at this
  | v :: vs, r :: rs, h => by
    obtain ⟨p, xs, rfl, e, _, hi⟩ := (h.2 0 v (oneD r) rfl rfl).tup_at
    have ex : xs = [V.int r, V.int 1] := by
      match xs, hi with
      | [x, y], hi =>
        rw [(hi.2 0 x _ rfl rfl).int_eq, (hi.2 1 y _ rfl rfl).int_eq]
      | [], hi => have := hi.1; simp at this
      | [_], hi => have := hi.1; simp at this
      | _ :: _ :: _ :: _, hi => have := hi.1; simp at this
    obtain ⟨ps, e1, e2⟩ := ones_at (vs := vs) (rs := rs) ⟨by have := h.1; simpa using this, fun i w d h1 h2 => h.2 (i + 1) w d h1 h2⟩
    exact ⟨p :: ps, by rw [e1]; rfl, .cons (by rw [e, ex]; rfl) e2⟩
section
variable {B : Amb} {C : Cx} {e : Expr} {σ : L2.St} {H : Hp} {pos p1 p2 p3 p4 p5 p6 : Pos} {rs : List Int}
theorem evp_dict (hc : C.calm = true) (hg : Gl C "dict") (hm : C.mg "dict" = none) (he : EV B C e σ H (.list (rs.map oneD))) (hs : starEach [e] C.env = (false, eval e C.env) :: starEach [] C.env := by rfl) : EVP B C (.Call (.Name "dict" p1) [e] [] pos) σ H fun v H2 => ∃ a, v = .ref a ∧ H2 a = some (.dK (kvS (ded [] rs))) := fun H1 g Q q =>
  of_pe (pe_callTy (call_dictP hc) hg hm boot_dict (pa_cons pe_S pa_nil hs) (he := hs)) (he H1 g _ fun v H2 g2 hv => by
    obtain ⟨a, vs, rfl, ea, _, hi⟩ := hv.list_at
    obtain ⟨ps, rfl, hp⟩ := ones_at hi
    refine ⟨a, ps, kvS rs, rfl, .inl (.inl ea), Paired.mapP hp fun p kv z => .inl (.inl z), fun p hn => ?_⟩
    have e1 : mergeK [] (kvS rs) = kvS (ded [] rs) := merge_ded rs []
    rw [e1]
    exact q _ _ (g2.trans (.new g2.tk hn)) ⟨p, rfl, upd_same⟩)
/-- tuple(sorted(dict([(x, 1) ..]))) -/
theorem ev_row (hc : C.calm = true) (hg : Gl C "dict") (hm : C.mg "dict" = none) (hg2 : Gl C "sorted") (hm2 : C.mg "sorted" = none) (hg3 : Gl C "tuple") (hm3 : C.mg "tuple" = none) (he : EV B C e σ H (.list (rs.map oneD))) (hs : rs.Pairwise (· < ·)) (hl : rs.length < 64)
    (h1 : starEach [e] C.env = (false, eval e C.env) :: starEach [] C.env := by rfl)
    (h2 : starEach [.Call (.Name "dict" p1) [e] [] p2] C.env = (false, eval (.Call (.Name "dict" p1) [e] [] p2) C.env) :: starEach [] C.env := by rfl)
    (h3 : starEach [.Call (.Name "sorted" p3) [.Call (.Name "dict" p1) [e] [] p2] [] p4] C.env = (false, eval (.Call (.Name "sorted" p3) [.Call (.Name "dict" p1) [e] [] p2] [] p4) C.env) :: starEach [] C.env := by rfl) :
    EV B C (.Call (.Name "tuple" p5) [.Call (.Name "sorted" p3) [.Call (.Name "dict" p1) [e] [] p2] [] p4] [] p6) σ H (.tuple (iD rs)) := fun H1 g Q q => by
  have nd : rs.Nodup := List.Pairwise.imp (fun h => by omega) hs
  refine of_pe (pe_callTy call_tuple_of hg3 hm3 boot_tuple (pa_cons (pe_callB (call_sortedDI hc) hg2 hm2 PyProof.Rows.boot_sorted (pa_cons pe_S pa_nil h2) (he := h2)) pa_nil h3) (he := h3)) ((evp_dict hc hg hm he h1) H1 g _ fun v H2 g2 ⟨a, ev, ea⟩ => ?_)
  subst ev
  have e1 : ded [] rs = rs := ded_nodup (by simpa using nd)
  rw [e1] at ea
  refine ⟨a, kvS rs, rs, rfl, .inl ea, by unfold kvS; rw [List.map_map]; rfl, hl, fun ys p hp hsd hn => ⟨p, iV ys, rfl, .inl ⟨.inl (.inl upd_same), fun l hl2 => ?_⟩⟩⟩
  have g3 := Gr.new (o := .lst (iV ys)) g2.tk hn
  have g4 := Gr.new (o := .tup (iV ys)) g3.tk hl2
  refine q _ _ (g2.trans (g3.trans g4)) ?_
  have ey : ys = rs := List.Perm.eq_of_pairwise (le := (· ≤ ·)) (fun a b _ _ h1 h2 => Int.le_antisymm h1 h2) hsd (List.Pairwise.imp (fun h => by omega) hs) hp
  subst ey
  have := ints_iss (H := upd (upd H2 p (.lst (iV ys))) l (.tup (iV ys))) (X := B.X) ys
  exact .tup upd_same (g3.tk.notX hl2) this.1 this.2
/-- [(x, 1) for x in xs], elements by data -/
theorem Is.rows {X : List Addr} {H : Hp} {v : V} {ds : List PyData} (h : Is X H v (.list ds)) : Is X H v (.list ds) := h
end
/-! ### what a Wants object holds -/
def wfl (l a r : V) : List (Str × V) := putF "rooms" r (putF "askers" a (putF "lists" l []))
theorem ne_ar : ¬ (("askers" : Str) = "rooms") := by decide +kernel
theorem ne_lr : ¬ (("lists" : Str) = "rooms") := by decide +kernel
theorem ne_la : ¬ (("lists" : Str) = "askers") := by decide +kernel
theorem wfl_l (l a r : V) : (wfl l a r).lookup ("lists" : Str) = some l := by
  unfold wfl
  rw [lookup_putF, if_neg ne_lr, lookup_putF, if_neg ne_la, lookup_putF, if_pos rfl]
theorem wfl_a (l a r : V) : (wfl l a r).lookup ("askers" : Str) = some a := by
  unfold wfl
  rw [lookup_putF, if_neg ne_ar, lookup_putF, if_pos rfl]
theorem wfl_r (l a r : V) : (wfl l a r).lookup ("rooms" : Str) = some r := by
  unfold wfl
  rw [lookup_putF, if_pos rfl]
theorem wfl_no (l a r : V) {x : Str} (h1 : ¬ x = "rooms") (h2 : ¬ x = "askers") (h3 : ¬ x = "lists") : (wfl l a r).lookup x = none := by
  unfold wfl
  rw [lookup_putF, if_neg h1, lookup_putF, if_neg h2, lookup_putF, if_neg h3]
  rfl
def rowD (r : List Int) : PyData := .tuple (iD r)
def listsD (L : List (List Int)) : PyData := .list (L.map rowD)
def bndD (ps : List (Int × Int)) : PyData := .tuple (ps.map pD)
structure WantAt (X : List Addr) (Cw : Addr) (H : Hp) (p : Addr) (W : Wt) : Prop where
  ex : ∃ dx l a r, H p = some (.ins Cw dx (wfl l a r)) ∧ Is X H l (listsD W.lists) ∧ Is X H a (bndD W.askers) ∧ Is X H r (bndD W.rooms)
theorem WantAt.mono {B : Amb} {Cw : Addr} {H H' : Hp} {p : Addr} {W : Wt} (w : WantAt B.X Cw H p W) (g : Gr B H H') : WantAt B.X Cw H' p W := by
  obtain ⟨dx, l, a, r, e, h1, h2, h3⟩ := w.ex
  exact ⟨dx, l, a, r, g.keep _ _ e fun ps z => (by cases z), h1.mono g, h2.mono g, h3.mono g⟩
structure TxW (K : PySem.W.Frag) (Cw : Addr) : Prop where
  cl : Cls K Cw
  nL : NoAttr K Cw "lists"
  nA : NoAttr K Cw "askers"
  nR : NoAttr K Cw "rooms"
section
variable {B : Amb} {C : Cx} {e : Expr} {σ : L2.St} {H : Hp} {pos : Pos} {Cw p : Addr} {W : Wt}
theorem ev_lists (T : TxW C.K Cw) (h : EX B C e σ H (.ref p)) (w : WantAt B.X Cw H p W) (hb : attributeBase e "lists" C.env (eval e C.env) = eval e C.env := by rfl) : EV B C (.Attribute e "lists" pos) σ H (listsD W.lists) := by
  obtain ⟨dx, l, a, r, e0, h1, h2, h3⟩ := w.ex
  exact (ex_fld h e0 T.cl T.nL (wfl_l _ _ _) hb).data h1
theorem ev_askers (T : TxW C.K Cw) (h : EX B C e σ H (.ref p)) (w : WantAt B.X Cw H p W) (hb : attributeBase e "askers" C.env (eval e C.env) = eval e C.env := by rfl) : EV B C (.Attribute e "askers" pos) σ H (bndD W.askers) := by
  obtain ⟨dx, l, a, r, e0, h1, h2, h3⟩ := w.ex
  exact (ex_fld h e0 T.cl T.nA (wfl_a _ _ _) hb).data h2
theorem ev_rooms (T : TxW C.K Cw) (h : EX B C e σ H (.ref p)) (w : WantAt B.X Cw H p W) (hb : attributeBase e "rooms" C.env (eval e C.env) = eval e C.env := by rfl) : EV B C (.Attribute e "rooms" pos) σ H (bndD W.rooms) := by
  obtain ⟨dx, l, a, r, e0, h1, h2, h3⟩ := w.ex
  exact (ex_fld h e0 T.cl T.nR (wfl_r _ _ _) hb).data h3
end
theorem sq_lists {L : List (List Int)} : Sq (listsD L) (L.map rowD) := .inl rfl
theorem sq_bnd {ps : List (Int × Int)} : Sq (bndD ps) (ps.map pD) := .inr rfl
/-! ### what the bounds must be -/
def badB (W : Wt) : Bool := (W.askers ++ W.rooms).any fun p => decide (p.1 < 0) || decide (p.2 < p.1)
def badR (W : Wt) : Bool := W.lists.any fun row => row.any fun r => !(decide (0 ≤ r) && decide (r < (W.rooms.length : Int)))
def wantsOk (W : Wt) : Bool := decide (W.askers.length = W.lists.length) && !badB W && !badR W
/-- an exception class of the text -/
structure XC (K : PySem.W.Frag) (mg : Str → Option Value) (x : Str) (C : Addr) : Prop where
  q : PySem.W.excIn K C [Value.type "ValueError", Value.type "Exception", Value.type "BaseException", Value.type "object"] "ValueError.__new__" = true
  g : mg x = some (.ref C)
  k : PySem.W.keepIn K (.ref C) = true
  r1 : PySem.W.subIn K (.ref C) (.type "BaseException") = some true
  r2 : PySem.W.typeIn K (.ref C) = some (.type "type")
/-- raise X('m') -/
theorem s_raise {C : Cx} {W : WX} {x m : Str} {Cx0 : Addr} {j : Nat} {p1 p2 p3 pos : Pos} {D : Ends} {σ : L2.St} {H : Hp} (hc : C.calm = true) (tk : Takes C W) (X : XC C.K C.mg x Cx0) (hg : Gl C x) (h : W (.ref Cx0) none σ H) (hdb : (x == ("__debug__" : Str)) = false := by decide) : sS C (.Raise (some (.Call (.Name x p1) [.Constant (.str m) j p2] [] p3)) none pos) D σ H :=
  of_ps (ps_raise hc tk (pmk_own PySem.F.excBase_ValueError X.q X.g X.k (raises_own X.r1 X.r2) hg hdb)) h
abbrev sWInit : Stmt := inClass (top 13) 0
abbrev sLinked : Stmt := inClass (top 13) 1
/-- o.f = data: the object's attributes -/
theorem s_fldD {B : Amb} {C : Cx} {o e : Expr} {D : Ends} {σ : L2.St} {H : Hp} {pos pos' : Pos} {p Cc dx : Addr} {fs : List (Str × V)} {f : Str} {d : PyData} (tk : TK B H) (he : EV B C e σ H d) (ho : EX B C o σ H (.ref p)) (hp : H p = some (.ins Cc dx fs)) (hc : Cls C.K Cc) (hn : NoAttr C.K Cc f) (hl : fs.length < 1000)
    (k : ∀ H' v, Gw B [p] H H' → H' p = some (.ins Cc dx (putF f v fs)) → Is B.X H' v d → D.nx σ H') (hs : swapsWith e (some (.Attribute o f pos')) pos.line C.env = pure false := by rfl) : sS C (.Assign [.Attribute o f pos'] e pos) D σ H :=
  of_ps (ps_fld pe_S pe_S hs) (he.go tk fun v H2 g2 hv => ho H2 g2 _ fun u H3 g3 eu => by
    subst eu
    have e3 := (g2.trans g3).keep _ _ hp fun ps z => by cases z
    exact ⟨p, Cc, dx, fs, rfl, e3, hc, hn, hl, k _ v ((g2.trans g3).w.trans (.upd g3.tk e3 (fun ps z => by cases z) fun q z => by cases z)) upd_same ((hv.mono g3).updO e3 (fun xs z => by cases z) fun xs z => by cases z)⟩)
structure WTx (K : PySem.W.Frag) (mg : Str → Option Value) (Cw cBS : Addr) : Prop where
  T : TxW K Cw
  ln : mg "len" = none
  an : mg "any" = none
  sm : mg "sum" = none
  tp : mg "tuple" = none
  sd : mg "sorted" = none
  di : mg "dict" = none
  bs : XC K mg "BadSize" cBS
section
variable {P : Program} {w : World} {K : PySem.W.Frag} {mg : Str → Option Value} {base : Heap} {Cw cBS : Addr}
def spWInit (Cw cBS PW : Addr) : Sp := fun vs H Q E => ∃ (B : Amb) (p dx : Addr) (v1 v2 v3 : V) (W : Wt) (d2 d3 : PyData), vs = [.ref p, v1, v2, v3] ∧ TK B H ∧ PW ∈ B.TG ∧ H p = some (.ins Cw dx []) ∧ Is B.X H v1 (listsD W.lists) ∧ Is B.X H v2 d2 ∧ Sq d2 (W.askers.map pD) ∧ Is B.X H v3 d3 ∧ Sq d3 (W.rooms.map pD) ∧
  (∀ row ∈ W.lists, row.Pairwise (· < ·) ∧ row.length ≤ 60) ∧ W.lists.length ≤ 1000 ∧ W.askers.length ≤ 1000 ∧ W.rooms.length ≤ 1000 ∧
  (wantsOk W = true → ∀ H', Gw B [p] H H' → WantAt B.X Cw H' p W → Q .non H') ∧ (wantsOk W = false → ∀ H', Gw B [p] H H' → E (.ref cBS) none H')
theorem scWI : FnScope ["self", "lists", "asker_bounds", "room_bounds", "row", "room"] ["self", "lists", "asker_bounds", "room_bounds"] (defScope sWInit) := ⟨rfl, rfl, rfl, by decide +kernel, rfl, by decide +kernel, by decide +kernel⟩
theorem lf_iD (r : List Int) : LF (.tuple (iD r)) := .tup fun d hd => by
  obtain ⟨i, _, rfl⟩ := List.mem_map.mp hd
  exact .int i
theorem ok_winit {f c PW : Addr} {fd : FuncData} (F : FunC K "__init__" "Wants.__init__" sWInit f c fd) (TB : GxR.TabB base mg c PW) (X : WTx K mg Cw cBS) : FnOk P w K mg base (L2.CX P w) 3 f fd ["self", "lists", "asker_bounds", "room_bounds"] (spWInit Cw cBS PW) := by
  refine F.okX scWI (fun vs H Q E h => ?_) (fun A outer s H vs Q E hr h => ?_)
  · obtain ⟨B, p, dx, v1, v2, v3, W, d2, d3, rfl, _⟩ := h
    rfl
  · obtain ⟨B, p, dx, v1, v2, v3, W, d2, d3, rfl, tk, hPW, hp, h1, h2, q2, h3, q3, hrows, hn1, hn2, hn3, kok, kbad⟩ := h
    have hu := hu_of hr
    refine ⟨_, pss_S, ?_⟩
    -- self.lists = [tuple(sorted(dict([(room, 1) for room in row]))) for row in lists]
    refine ss_cons (s_fldD (d := listsD W.lists) tk (EV.to (ev_lc (own := [("row", 4)]) (pat := .nm 4) (xs := W.lists.map rowD) (outs := oT)
      (ei_list (ev_var 1)) (by rw [List.length_map]; omega) rfl scWI.nd (blk_nf (N := ["self", "lists", "asker_bounds", "room_bounds", "row", "room"]) (by decide +kernel)) (eg_bn scWI.nd) (fun d _ => True.intro) ?_ ?_) ?_) (ex_var 0) hp X.T.cl X.T.nL (by show 0 < 1000; decide) fun H1 l1 w1 e1 i1 => ?_)
    · intro d hd d' hd'
      obtain ⟨row, _, rfl⟩ := List.mem_map.mp hd
      cases hd'
      exact lf_iD row
    · intro d hd H3 σ2 g3 hput
      obtain ⟨row, hrow, rfl⟩ := List.mem_map.mp hd
      obtain ⟨v, rfl, hv⟩ := hput
      obtain ⟨hr1, hr2⟩ := hrows row hrow
      refine ⟨rfl, item_all fun C' hC' => ?_⟩
      obtain ⟨s', H', cc, cl, fp, rfl⟩ := hC'
      refine ev_row rfl rfl X.di rfl X.sd rfl X.tp (EV.to (ev_lc (own := [("room", 5)]) (pat := .nm 5) (xs := iD row) (outs := oN oneD) (ei_tup (ev_var 4)) (by rw [iD, List.length_map]; omega) rfl scWI.nd (blk_nf (N := ["self", "lists", "asker_bounds", "room_bounds", "row", "room"]) (by decide +kernel)) (eg_bn scWI.nd) (fun d _ => True.intro) ?_ ?_) ?_) hr1 (by omega)
      · intro d hd d' hd'
        obtain ⟨i, _, rfl⟩ := List.mem_map.mp hd
        cases hd'
        exact lf_pair (.int _) (.int _)
      · intro d hd H4 σ3 g4 hput
        obtain ⟨i, _, rfl⟩ := List.mem_map.mp hd
        obtain ⟨v', rfl, hv'⟩ := hput
        rw [hv'.int_eq]
        refine ⟨rfl, item_all fun C' hC' => ?_⟩
        obtain ⟨s', H', cc, cl, fp, rfl⟩ := hC'
        exact ev_tup (ea_cons (ex_var 5).int (ea_cons ev_int ea_nil)) (by show 2 ≤ sizeLine; decide)
      · exact congrArg PyData.list (fm_map (enc := PyData.int) (outs := oN oneD) (f := oneD) (fun a => rfl) row)
    · exact congrArg PyData.list (fm_map (enc := rowD) (outs := oT) (f := rowD) (fun a => rfl) W.lists)
    -- self.askers = tuple(asker_bounds)
    have i2 := h2.past w1 hp (fun xs z => by cases z) fun xs z => by cases z
    have i3 := h3.past w1 hp (fun xs z => by cases z) fun xs z => by cases z
    refine ss_cons (s_fldD (d := bndD W.askers) w1.tk (ev_tupleOf rfl X.tp (ev_var 2 (hd := i2)) q2) (ex_var 0) e1 X.T.cl X.T.nA (by show 1 < 1000; decide) fun H2 l2 w2 e2 j2 => ?_)
    have j1 := i1.past w2 e1 (fun xs z => by cases z) fun xs z => by cases z
    have j3 := i3.past w2 e1 (fun xs z => by cases z) fun xs z => by cases z
    -- self.rooms = tuple(room_bounds)
    refine ss_cons (s_fldD (d := bndD W.rooms) w2.tk (ev_tupleOf rfl X.tp (ev_var 3 (hd := j3)) q3) (ex_var 0) e2 X.T.cl X.T.nR (by show 2 < 1000; decide) fun H3 l3 w3 e3 k3 => ?_)
    have k1 := j1.past w3 e2 (fun xs z => by cases z) fun xs z => by cases z
    have k2 := j2.past w3 e2 (fun xs z => by cases z) fun xs z => by cases z
    have WA : WantAt B.X Cw H3 p W := ⟨⟨dx, l1, l2, l3, e3, k1, k2, k3⟩⟩
    have w03 := w1.trans (w2.trans w3)
    -- if len(self.askers) != len(self.lists) or any(..): raise
    refine ss_cons (s_if (ET.go (B := B) (b := !decide ((W.askers.length : Int) = (W.lists.length : Int)) || badB W) w3.tk (et_or (et_cmp co_neI (EV.to (ev_len rfl X.ln (ev_askers X.T (ex_var 0) WA) sq_bnd) (by rw [List.length_map])) (EV.to (ev_len rfl X.ln (ev_lists X.T (ex_var 0) WA) sq_lists) (by rw [List.length_map]))) fun _ => et_val (EVP.bool (evp_gen1 .any (k := 0) (N := [".0", "low", "high"]) (fr := []) (js := []) (pat := .two (.nm 1) (.nm 2)) (xs := (W.askers ++ W.rooms).map pD) (outs := oP fun x y => .bool (decide (x < 0) || decide (y < x)))
        (hr.mono (by decide)) rfl X.an (gtxt (defScope sWInit) TB (by decide +kernel)) hPW (ei_tup (EV.to (ev_catT (ev_askers X.T (ex_var 0) WA) (ev_rooms X.T (ex_var 0) WA) (by rw [List.length_map, List.length_map]; have h3 : (2000 : Nat) ≤ sizeLine := (by decide); omega)) (by rw [List.map_append]))) (eg_gt (eg_gn (by decide +kernel) rfl rfl) (eg_gn (by decide +kernel) rfl rfl)) ?_ ?_ (fun σ => ∃ a b, σ = [none, a, b]) ⟨none, none, rfl⟩ ?_ ?_))) fun H4 g4 => ?_))
    · intro d hd
      obtain ⟨pr, _, rfl⟩ := List.mem_map.mp hd
      exact ⟨_, _, rfl, True.intro, True.intro⟩
    · intro d hd d' hd'
      obtain ⟨pr, _, rfl⟩ := List.mem_map.mp hd
      cases hd'
      exact .inl ⟨_, rfl⟩
    · rintro d hd H6 σ1 σ2 g6 ⟨a1, b1, rfl⟩ ⟨d1, d2, σ3, ed, ⟨v1, rfl, h1⟩, ⟨v2, rfl, h2⟩⟩
      obtain ⟨pr, hpr, rfl⟩ := List.mem_map.mp hd
      cases ed
      rw [h1.int_eq, h2.int_eq]
      refine ⟨⟨_, _, rfl⟩, item_all fun C' hC' => ?_⟩
      obtain ⟨A', s', H', cc, code, fp, pn, hA, rfl⟩ := hC'
      exact ev_or (ev_cmp co_lt (ex_var 1).int ev_int) fun _ => ev_cmp co_gt (ex_var 1).int (ex_var 2).int
    · have := k_any (bs := (W.askers ++ W.rooms).map fun pr => decide (pr.1 < 0) || decide (pr.2 < pr.1)) (ys := ((W.askers ++ W.rooms).map pD).filterMap (oP fun x y => .bool (decide (x < 0) || decide (y < x)))) (by rw [fmP, List.map_map]; rfl)
      rw [List.any_map] at this
      exact this
    have WA4 := WA.mono g4
    refine ⟨fun z => ss_cons (s_raise rfl (takes_of rfl rfl rfl rfl) X.bs rfl (kbad ?_ _ (w03.trans g4.w))), fun z => ss_nil ?_⟩
    · unfold wantsOk
      cases hb : badB W with
      | true => simp
      | false =>
        rw [hb, Bool.or_false] at z
        have : ¬ W.askers.length = W.lists.length := fun e => by rw [e] at z; simp at z
        simp [this]
    have z1 : badB W = false ∧ W.askers.length = W.lists.length := by
      rw [Bool.or_eq_false_iff] at z
      refine ⟨z.2, ?_⟩
      have := z.1
      simp at this
      omega
    -- if any(not 0 <= room < len(self.rooms) ..): raise
    refine ss_cons (s_if (ET.go (B := B) (b := badR W) g4.tk (et_val (EVP.bool (evp_gen2 .any (k := 0) (N := [".0", "self", "row", "room"]) (fr := ["self"]) (js := [0]) (pat := .nm 2) (pat1 := .nm 3) (xs := W.lists.map rowD) (inner := fun d => match d with | .tuple ds => ds | _ => []) (outs2 := fun _ => oN fun r => .bool (!(decide (0 ≤ r) && decide (r < (W.rooms.length : Int)))))
        (hr.mono (by decide)) rfl X.an (gtxt (defScope sWInit) TB (by decide +kernel)) hPW (ei_list (ev_lists X.T (ex_var 0) WA4)) (eg_gn (by decide +kernel) rfl rfl) (eg_gn (by decide +kernel) rfl rfl) (fun _ _ => True.intro) (fun _ _ _ _ => True.intro) ?_ (fun σ => ∃ a b, σ = [none, some (.ref p), a, b]) ⟨none, none, rfl⟩ ?_ ?_ ?_))) fun H5 g5 => ?_))
    · intro d hd d1 hd1 d' hd'
      obtain ⟨row, _, rfl⟩ := List.mem_map.mp hd
      obtain ⟨i, _, rfl⟩ := List.mem_map.mp hd1
      cases hd'
      exact .inl ⟨_, rfl⟩
    · rintro d hd H6 σ1 σ2 g6 ⟨a1, b1, rfl⟩ ⟨v1, rfl, h1⟩
      obtain ⟨row, hrow, rfl⟩ := List.mem_map.mp hd
      refine ⟨⟨_, _, rfl⟩, fun C' hC' => ?_⟩
      obtain ⟨A', s', H', cc, code, fp, pn, hA, rfl⟩ := hC'
      exact ei_tup (ev_var 2)
    · rintro d hd dd hdd H6 σ1 σ2 g6 ⟨a1, b1, rfl⟩ ⟨v1, rfl, h1⟩
      obtain ⟨row, hrow, rfl⟩ := List.mem_map.mp hd
      obtain ⟨i, hi, rfl⟩ := List.mem_map.mp hdd
      rw [h1.int_eq]
      refine ⟨⟨_, _, rfl⟩, item_all fun C' hC' => ?_⟩
      obtain ⟨A', s', H', cc, code, fp, pn, hA, rfl⟩ := hC'
      exact ev_not (ev_chain co_le co_lt ev_int (ex_var 3).int (EV.to (ev_len rfl X.ln (ev_rooms X.T (ex_var 1) (WA4.mono g6)) sq_bnd) (by rw [List.length_map])))
    · have e1 : ((W.lists.map rowD).flatMap fun d => ((match d with | .tuple ds => ds | _ => [] : List PyData)).filterMap (oN fun r => .bool (!(decide (0 ≤ r) && decide (r < (W.rooms.length : Int)))))) = ((W.lists.flatMap fun row => row.map fun r => !(decide (0 ≤ r) && decide (r < (W.rooms.length : Int))))).map PyData.bool := by
        rw [List.flatMap_map, List.map_flatMap]
        congr 1
        funext row
        show (iD row).filterMap _ = _
        rw [fmN, List.map_map]
        rfl
      have := k_any e1
      rw [List.any_flatMap] at this
      simp only [List.any_map] at this
      exact this
    have w05 := w03.trans (g4.trans g5).w
    refine ⟨fun z => ss_cons (s_raise rfl (takes_of rfl rfl rfl rfl) X.bs rfl (kbad ?_ _ w05)), fun z => ss_nil (ss_nil (kok ?_ _ w05 (WA4.mono g5)))⟩
    · unfold wantsOk
      rw [z]
      simp
    · unfold wantsOk
      rw [z, z1.1, decide_eq_true z1.2]
      rfl
/-! ### linked -/
def spLinked (Cw PL : Addr) : Sp := fun vs H Q _ => ∃ (B : Amb) (p : Addr) (v1 v2 : V) (W : Wt) (d1 d2 : PyData) (A O : List Int), vs = [.ref p, v1, v2] ∧ TK B H ∧ PL ∈ B.TG ∧ WantAt B.X Cw H p W ∧ Is B.X H v1 d1 ∧ Sq d1 (iD A) ∧ Is B.X H v2 d2 ∧ Sq d2 (iD O) ∧ (∀ a ∈ A, 0 ≤ a ∧ a < (W.lists.length : Int)) ∧ (linked W A O).toNat ≤ 1000000 ∧
  ∀ H', Gr B H H' → Q (.int (linked W A O)) H'
theorem scLinked : FnScope ["self", "askers", "rooms"] ["self", "askers", "rooms"] (defScope sLinked) := ⟨rfl, rfl, rfl, by decide +kernel, rfl, by decide +kernel, by decide +kernel⟩
theorem sum_ones {α : Type} (l : List α) : ((l.map fun _ => (1 : Int))).sum = (l.length : Int) := by
  induction l with
  | nil => rfl
  | cons a l ih => rw [List.map_cons, List.sum_cons, ih, List.length_cons]; omega
theorem sm_sum {α : Type} (l : List α) (f : α → Int) : sm l f = (l.map f).sum := by
  induction l with
  | nil => rfl
  | cons a l ih => rw [sm_cons, ih, List.map_cons, List.sum_cons]
/-- a sum of what is not below nought is a long where its end is small -/
theorem small_sum {ks : List Int} (h0 : ∀ k ∈ ks, 0 ≤ k) (hs : ks.sum ≤ 1000000000) : (∀ k ∈ ks, InLong k) ∧ ∀ j, InLong (ks.take j).sum := by
  have il : ∀ x : Int, 0 ≤ x → x ≤ 1000000000 → InLong x := fun x h1 h2 => by
    unfold InLong
    constructor <;> omega
  refine ⟨fun k hk => il k (h0 k hk) ?_, fun j => ?_⟩
  · obtain ⟨i, hi⟩ := List.mem_iff_getElem?.mp hk
    have h1 := take_sum_le ks h0 i
    have h2 := take_sum_le ks h0 (i + 1)
    have e : ks.take (i + 1) = ks.take i ++ [k] := by rw [List.take_add_one, hi]; rfl
    rw [e, List.sum_append, List.sum_singleton] at h2
    omega
  · have := take_sum_le ks h0 j
    exact il _ this.1 (by omega)
def oC (p : Int → Bool) : PyData → Option PyData
  | .int i => if p i = true then some (.int 1) else none
  | _ => none
theorem ei_sq {B : Amb} {C : Cx} {tg a : Expr} {σ : L2.St} {H : Hp} {d : PyData} {ds : List PyData} (q : Sq d ds) (h : EV B C a σ H d) : EI B C tg a σ H ds := by
  rcases q with e | e
  · exact ei_list (h.to e)
  · exact ei_tup (h.to e)
theorem row_at {W : Wt} {a : Int} (h : 0 ≤ a ∧ a < (W.lists.length : Int)) : (W.lists.map rowD)[a.toNat]? = some (rowD (W.row a.toNat)) := by
  have hl : a.toNat < W.lists.length := by omega
  rw [List.getElem?_map, List.getElem?_eq_getElem hl]
  unfold Wt.row
  rw [List.getD_eq_getElem?_getD, List.getElem?_eq_getElem hl]
  rfl
theorem sum_filter (p : Int → Bool) (l : List Int) : ((l.filter p).map fun _ => (1 : Int)).sum = sm l (fun r => if p r = true then 1 else 0) := by
  induction l with
  | nil => rfl
  | cons a l ih =>
    rw [List.filter_cons, sm_cons]
    by_cases h : p a = true
    · rw [if_pos h, if_pos h, List.map_cons, List.sum_cons, ih]
    · rw [if_neg h, if_neg h, ih, Int.zero_add]
theorem sum_flat {α : Type} (l : List α) (f : α → List Int) : (l.flatMap f).sum = sm l (fun a => (f a).sum) := by
  induction l with
  | nil => rfl
  | cons a l ih => rw [List.flatMap_cons, List.sum_append, ih, sm_cons]
def linkL (W : Wt) (A O : List Int) : List Int := A.flatMap fun a => ((W.row a.toNat).filter fun r => decide (r ∈ O)).map fun _ => (1 : Int)
theorem linkL_sum (W : Wt) (A O : List Int) : (linkL W A O).sum = linked W A O := by
  unfold linkL linked
  rw [sum_flat]
  refine sm_congr fun a _ => ?_
  rw [sum_filter]
  exact sm_congr fun r _ => by simp
theorem linkL_one {W : Wt} {A O : List Int} : ∀ k ∈ linkL W A O, k = 1 := fun k hk => by
  obtain ⟨a, _, h⟩ := List.mem_flatMap.mp hk
  obtain ⟨r, _, e⟩ := List.mem_map.mp h
  exact e.symm
theorem ok_linked {f c PL : Addr} {fd : FuncData} (F : FunC K "linked" "Wants.linked" sLinked f c fd) (TB : GxR.TabB base mg c PL) (X : WTx K mg Cw cBS) : FnOk P w K mg base CX0 2 f fd ["self", "askers", "rooms"] (spLinked Cw PL) := by
  refine F.ok scLinked (fun vs H Q E h => ?_) (fun A outer s H vs Q E hr h => ?_)
  · obtain ⟨B, p, v1, v2, W, d1, d2, A, O, rfl, _⟩ := h
    rfl
  · obtain ⟨B, p, v1, v2, W, d1, d2, A1, O, rfl, tk, hPL, WA, h1, q1, h2, q2, hA, hsm, k⟩ := h
    refine ⟨_, pss_S, ?_⟩
    refine ss_cons (s_ret (EV.go (B := B) (d := .int (linked W A1 O)) tk (EVP.int (evp_gen2 .sum (k := 0) (N := [".0", "rooms", "self", "asker", "room"]) (fr := ["rooms", "self"]) (js := [2, 0]) (pat := .nm 3) (pat1 := .nm 4) (xs := iD A1) (inner := fun d => match d with | .int a => iD (W.row a.toNat) | _ => []) (outs2 := fun _ => oC fun r => decide (r ∈ O))
      (hr.mono (by decide)) rfl X.sm (gtxt (defScope sLinked) TB (by decide +kernel)) hPL (ei_sq q1 (ev_var 1)) (eg_gn (by decide +kernel) rfl rfl) (eg_gn (by decide +kernel) rfl rfl) (fun _ _ => True.intro) (fun _ _ _ _ => True.intro) ?_ (fun σ => ∃ a b, σ = [none, some v2, some (.ref p), a, b]) ⟨none, none, rfl⟩ ?_ ?_ ?_)) fun v H2 g2 hv => by rw [hv.int_eq]; exact k H2 g2))
    · intro d hd d1 hd1 d' hd'
      obtain ⟨a, _, rfl⟩ := List.mem_map.mp hd
      obtain ⟨i, _, rfl⟩ := List.mem_map.mp hd1
      have hd' : (if decide (i ∈ O) = true then some (PyData.int 1) else none) = some d' := hd'
      by_cases h : decide (i ∈ O) = true
      · rw [if_pos h] at hd'; cases hd'; exact .inr ⟨_, rfl⟩
      · rw [if_neg h] at hd'; cases hd'
    · rintro d hd H6 σ1 σ2 g6 ⟨a1, b1, rfl⟩ ⟨w1, rfl, hw1⟩
      obtain ⟨a, ha, rfl⟩ := List.mem_map.mp hd
      rw [hw1.int_eq]
      refine ⟨⟨_, _, rfl⟩, fun C' hC' => ?_⟩
      obtain ⟨A', s', H', cc, code, fp, pn, hA', rfl⟩ := hC'
      exact ei_tup (ev_ix (ev_lists X.T (ex_var 2) (WA.mono g6)) sq_lists (ex_var 3).int (Int.toNat_of_nonneg (hA a ha).1).symm (row_at (hA a ha)))
    · rintro d hd dd hdd H6 σ1 σ2 g6 ⟨a1, b1, rfl⟩ ⟨w1, rfl, hw1⟩
      obtain ⟨a, ha, rfl⟩ := List.mem_map.mp hd
      obtain ⟨i, hi, rfl⟩ := List.mem_map.mp hdd
      rw [hw1.int_eq]
      have h26 := h2.mono g6
      refine ⟨⟨_, _, rfl⟩, item_if (fun C' hC' => ?_) fun _ C' hC' => ?_⟩
      · obtain ⟨A', s', H', cc, code, fp, pn, hA', rfl⟩ := hC'
        exact et_cmp (co_inI q2) (ex_var 4).int (ev_var 1)
      · obtain ⟨A', s', H', cc, code, fp, pn, hA', rfl⟩ := hC'
        exact ev_int
    · have e1 : ((iD A1).flatMap fun d => ((match d with | .int a => iD (W.row a.toNat) | _ => [] : List PyData)).filterMap (oC fun r => decide (r ∈ O))) = (linkL W A1 O).map PyData.int := by
        unfold linkL
        rw [iD, List.flatMap_map, List.map_flatMap]
        congr 1
        funext a
        show (iD (W.row a.toNat)).filterMap _ = _
        rw [iD, fm_if (enc := PyData.int) (outs := oC fun r => decide (r ∈ O)) (f := fun _ => .int 1) (p := fun r => decide (r ∈ O)) (fun _ => rfl), List.map_map]
        rfl
      have h0 : ∀ k ∈ linkL W A1 O, (0 : Int) ≤ k := fun k hk => by rw [linkL_one k hk]; decide
      have hs := linkL_sum W A1 O
      have sm2 := small_sum h0 (by rw [hs]; omega)
      have := k_sum e1 sm2.1 sm2.2
      rw [hs] at this
      exact this
end
end K22
end
section
set_option Elab.async false
set_option linter.all false
set_option maxRecDepth 100000
set_option maxHeartbeats 4000000
/-! K22Laid: laid. -/
namespace K22
open PySem PySem.Spec PyProof.Rows L2 NdefX Pm
abbrev sLaid : Stmt := top 14
/-- the text of both classes as the top has made them -/
structure All (K : PySem.W.Frag) (mg : Str → Option Value) (Cp Cw cBS fM fF fI fL fW : Addr) (fdM fdF fdI fdL fdW : FuncData) : Prop where
  X : PTx K mg Cp fM fF fdM fdF
  Y : WTx K mg Cw cBS
  en : mg "enumerate" = none
  gP : mg "Pipes" = some (.ref Cp)
  mkP : Mk K Cp fI
  FI : Fun K "__init__" "Pipes.__init__" sPInit fI fdI
  bI : Binds K fdI ["self", "many"] []
  FL : Fun K "lay" "Pipes.lay" sLay fL fdL
  bL : Binds K fdL ["self", "one", "other", "room"] []
  mL : Meth K Cp "lay" fL
  FW : Fun K "way" "Pipes.way" sWay fW fdW
  bW : Binds K fdW ["self", "start", "end"] []
  mW : Meth K Cp "way" fW
theorem WantAt.plus {B : Amb} {Cw : Addr} {H : Hp} {p : Addr} {W : Wt} {l : List Addr} (w : WantAt B.X Cw H p W) (hl : ∀ a ∈ l, H a = none) : WantAt (B.plus l).X Cw H p W := by
  obtain ⟨dx, v1, v2, v3, e, h1, h2, h3⟩ := w.ex
  exact ⟨dx, v1, v2, v3, e, h1.plus hl, h2.plus hl, h3.plus hl⟩
theorem WantAt.w {B : Amb} {Cw : Addr} {S : List Addr} {H H' : Hp} {p : Addr} {W : Wt} (w : WantAt B.X Cw H p W) (g : Gw B S H H') (hS : ∀ a ∈ S, a ∈ B.X) (hp : p ∉ S) : WantAt B.X Cw H' p W := by
  obtain ⟨dx, v1, v2, v3, e, h1, h2, h3⟩ := w.ex
  exact ⟨dx, v1, v2, v3, g.at e (fun ps z => by cases z) hp, g.is hS h1, g.is hS h2, g.is hS h3⟩
section
variable {P : Program} {w : World} {K : PySem.W.Frag} {mg : Str → Option Value} {base : Heap} {Cp Cw cBS fM fF fI fL fW : Addr} {fdM fdF fdI fdL fdW : FuncData}
/-- pipes.lay(x, y, c) -/
theorem s_lay {B : Amb} {C : Cx} {D : Ends} {k : Nat} {o a b c : Expr} {σ : L2.St} {H : Hp} {apos cpos pos : Pos} {p r g : Addr} {m : Nat} {ops : List Op} {x y z : Int} (hK : C.K = K) (hmg : C.mg = mg) (X : All K mg Cp Cw cBS fM fF fI fL fW fdM fdF fdI fdL fdW) (hr : Room (k + 1) C.A) (tk : TK B H) (PA : PipeAt Cp H p r g m ops (fun _ _ => 0)) (hl : ops.length ≤ 300) (hz : 0 ≤ z) (ho : EX B C o σ H (.ref p)) (ha : EV B C a σ H (.int x)) (hb : EV B C b σ H (.int y)) (hc : EV B C c σ H (.int z))
    (q : ∀ H', Gw B [r, g] H H' → PipeAt Cp H' p r g m (ops ++ [(x, y, z)]) (fun _ _ => 0) → D.nx σ H')
    (h1 : starEach [a, b, c] C.env = (false, eval a C.env) :: starEach [b, c] C.env := by rfl) (h2 : starEach [b, c] C.env = (false, eval b C.env) :: starEach [c] C.env := by rfl) (h3 : starEach [c] C.env = (false, eval c C.env) :: starEach [] C.env := by rfl) (hpl : (backTo cpos (starEach [b, c] C.env)).any (·.1) = false := by rfl) {pl : Sem Bool}
    (ht : eval (.Call (.Attribute o "lay" apos) [a, b, c] [] cpos) C.env = (do
      let ov ← eval o C.env
      standAt apos.atName
      let (f, first) ← holding [ov] (getMethod ov "lay" pl)
      callWith cpos f first (backTo cpos (starEach [a, b, c] C.env)) (backToKw cpos (keywordEach [] C.env))) := by rfl)
    (hsw : swapsWith (.Call (.Attribute o "lay" apos) [a, b, c] [] cpos) none pos.line C.env = pure false := by rfl) :
    sS C (.Expr (.Call (.Attribute o "lay" apos) [a, b, c] [] cpos) pos) D σ H := by
  subst hK hmg
  refine s_expr (of_pe (pe_meth pe_S X.X.T.cl X.mL (ok_lay X.FL X.X.T) (hr.mono (by omega)) X.bL .nil pass0 (pa_cons pe_S (pa_cons pe_S (pa_cons pe_S pa_nil h3) h2) h1) h1 hpl ht) ?_) hsw
  refine ho.go tk fun v H1 g1 ev => ?_
  subst ev
  obtain ⟨⟨dx, e1⟩, _⟩ := PA.mono g1
  refine ⟨p, dx, _, rfl, e1, pfl_no _ _ _ (by decide +kernel) (by decide +kernel) (by decide +kernel), ?_⟩
  refine ha H1 g1 _ fun v1 H2 g2 hv1 => ?_
  refine hb H2 (g1.trans g2) _ fun v2 H3 g3 hv2 => ?_
  refine hc H3 (g1.trans (g2.trans g3)) _ fun v3 H4 g4 hv3 => ?_
  rw [hv1.int_eq, hv2.int_eq, hv3.int_eq]
  have gg := g1.trans (g2.trans (g3.trans g4))
  exact ⟨B, p, r, g, m, ops, x, y, z, rfl, gg.tk, hz, PA.mono gg, hl, fun H5 w5 PA5 => q H5 (gg.w.trans w5) PA5⟩
/-- Pipes(m) -/
theorem t_pipes {B : Amb} {C : Cx} {k : Nat} {a : Expr} {σ : L2.St} {H : Hp} {pos p1 : Pos} {m : Nat} {Q : VK} (hK : C.K = K) (hmg : C.mg = mg) (X : All K mg Cp Cw cBS fM fF fI fL fW fdM fdF fdI fdL fdW) (hr : Room (k + 2) C.A) (hg : Gl C "Pipes") (tk : TK B H) (ha : EV B C a σ H (.int (m : Int)))
    (q : ∀ p r g H', Gr B H H' → H r = none → H g = none → H p = none → PipeAt Cp H' p r g m [] (fun _ _ => 0) → Q (.ref p) H')
    (h3 : starEach [a] C.env = (false, eval a C.env) :: starEach [] C.env := by rfl) (hpl : (backTo pos (starEach [] C.env)).any (·.1) = false := by rfl) :
    tS C (.Call (.Name "Pipes" p1) [a] [] pos) σ H Q := by
  subst hK hmg
  refine of_pe (pe_make X.mkP (ok_pinit X.FI X.X.T) (hr.mono (by omega)) hg X.gP X.bI .nil pass0 (pa_cons pe_S pa_nil h3) (by decide) h3 hpl) ?_
  refine ha H (.refl tk) _ fun v H1 g1 hv => ?_
  rw [hv.int_eq]
  intro x dx hx hdx hne
  refine ⟨x, dx, m, rfl, upd_same, fun r g H' hr' hg' PA kp => ⟨rfl, ?_⟩⟩
  have n1 : ∀ {b : Addr}, (upd (upd H1 dx (.own x)) x (.ins Cp dx [])) b = none → H1 b = none := fun {b} h => by
    cases e : H1 b with
    | none => rfl
    | some o =>
      rw [upd_ne (ne_of_none e hx), upd_ne (ne_of_none e hdx), e] at h
      cases h
  refine q x r g H' (g1.trans (.ext g1.tk fun b o e => kp b o (by rw [upd_ne (ne_of_none e hx), upd_ne (ne_of_none e hdx)]; exact e) (ne_of_none e hx))) (g1.dom _ (n1 hr')) (g1.dom _ (n1 hg')) (g1.dom _ hx) PA
/-! ### laid -/
/-- the sizes that the law stays within -/
structure Small (W : Wt) : Prop where
  n : W.lists.length ≤ 8
  m : W.rooms.length ≤ 8
  row : ∀ a, (W.row a).length ≤ 8
  ab : ∀ p ∈ W.askers, p.2 ≤ 1000
  rb : ∀ p ∈ W.rooms, p.2 ≤ 1000
theorem askAll_succ (W : Wt) (b : Bool) (k : Nat) : askAll W b (k + 1) = askAll W b k ++ askOps W b k := by
  unfold askAll
  rw [List.range_succ, List.flatMap_append]
  simp
theorem roomAll_succ (W : Wt) (b : Bool) (k : Nat) : roomAll W b (k + 1) = roomAll W b k ++ roomOps W b k := by
  unfold roomAll
  rw [List.range_succ, List.flatMap_append]
  simp
theorem mustA_succ (W : Wt) (b : Bool) (k : Nat) : mustA W b (k + 1) = mustA W b k + (if b = true ∧ 0 < W.alo k then W.alo k else 0) := by
  unfold mustA
  rw [List.range_succ, sm_append, sm_cons, sm_nil]
  omega
theorem mustR_succ (W : Wt) (b : Bool) (k : Nat) : mustR W b (k + 1) = mustR W b k + (if b = true ∧ 0 < W.rlo k then W.rlo k else 0) := by
  unfold mustR
  rw [List.range_succ, sm_append, sm_cons, sm_nil]
  omega
theorem extra_len (b : Bool) (low : Int) (l : List Op) : (extra b low l).length ≤ l.length := by
  unfold extra
  split
  · exact Nat.le_refl _
  · exact Nat.zero_le _
theorem askOps_len {W : Wt} (s : Small W) (b : Bool) (a : Nat) : (askOps W b a).length ≤ 11 := by
  unfold askOps
  rw [List.length_cons, List.length_append, List.length_map]
  have h1 := extra_len b (W.alo a) [(kE W + 1, (a : Int), W.alo a), (kS W, kE W + 2, W.alo a)]
  have h2 := s.row a
  have h3 : [(kE W + 1, (a : Int), W.alo a), (kS W, kE W + 2, W.alo a)].length = 2 := rfl
  omega
theorem roomOps_len (W : Wt) (b : Bool) (r : Nat) : (roomOps W b r).length ≤ 3 := by
  unfold roomOps
  rw [List.length_cons]
  have h1 := extra_len b (W.rlo r) [((W.n : Int) + (r : Int), kE W + 2, W.rlo r), (kE W + 1, kE W, W.rlo r)]
  have h3 : [((W.n : Int) + (r : Int), kE W + 2, W.rlo r), (kE W + 1, kE W, W.rlo r)].length = 2 := rfl
  omega
theorem askAll_len {W : Wt} (s : Small W) (b : Bool) : ∀ k, (askAll W b k).length ≤ 11 * k
  | 0 => by unfold askAll; simp
  | k + 1 => by
    rw [askAll_succ, List.length_append]
    have h1 := askAll_len s b k
    have h2 := askOps_len s b k
    omega
theorem roomAll_len (W : Wt) (b : Bool) : ∀ k, (roomAll W b k).length ≤ 3 * k
  | 0 => by unfold roomAll; simp
  | k + 1 => by
    rw [roomAll_succ, List.length_append]
    have h1 := roomAll_len W b k
    have h2 := roomOps_len W b k
    omega
theorem ask_at {W : Wt} {i : Nat} {p : Int × Int} (h : W.askers[i]? = some p) : W.alo i = p.1 ∧ W.ahi i = p.2 := by
  unfold Wt.alo Wt.ahi
  rw [List.getD_eq_getElem?_getD, h]
  exact ⟨rfl, rfl⟩
theorem room_at {W : Wt} {i : Nat} {p : Int × Int} (h : W.rooms[i]? = some p) : W.rlo i = p.1 ∧ W.rhi i = p.2 := by
  unfold Wt.rlo Wt.rhi
  rw [List.getD_eq_getElem?_getD, h]
  exact ⟨rfl, rfl⟩
theorem enum_pD {ps : List (Int × Int)} {i : Nat} {d : PyData} (h : (enumD (ps.map pD))[i]? = some d) : ∃ p, ps[i]? = some p ∧ d = .tuple [.int (i : Int), pD p] := by
  obtain ⟨d0, h0, rfl⟩ := enumD_at h
  rw [List.getElem?_map] at h0
  cases e : ps[i]? with
  | none => rw [e] at h0; cases h0
  | some p => rw [e] at h0; cases h0; exact ⟨p, rfl, rfl⟩
theorem enum_mem {ps : List (Int × Int)} {d : PyData} (h : d ∈ enumD (ps.map pD)) : ∃ (i : Nat) (p : Int × Int), ps[i]? = some p ∧ d = .tuple [.int (i : Int), pD p] := by
  obtain ⟨i, hi⟩ := List.mem_iff_getElem?.mp h
  obtain ⟨p, h1, h2⟩ := enum_pD hi
  exact ⟨i, p, h1, h2⟩
/-- the length of a row -/
def oR : PyData → Option PyData
  | .tuple ds => some (.int (ds.length : Int))
  | _ => none
theorem links_sum (W : Wt) : (W.lists.map fun row => (row.length : Int)).sum = links W := by
  unfold links Wt.row Wt.n
  rw [← sm_sum]
  have : ∀ (L : List (List Int)), sm L (fun row => (row.length : Int)) = sm (List.range L.length) (fun a => ((L.getD a []).length : Int)) := by
    intro L
    induction L with
    | nil => rfl
    | cons r L ih =>
      rw [sm_cons, List.length_cons, List.range_succ_eq_map, sm_cons, sm_map, ih]
      rfl
  exact this W.lists
theorem links_small {W : Wt} (s : Small W) : links W ≤ 64 := by
  unfold links
  have h1 : sm (List.range W.n) (fun a => ((W.row a).length : Int)) ≤ sm (List.range W.n) (fun _ => 8) := sm_le fun a _ => by have := s.row a; omega
  have h2 : ∀ n : Nat, sm (List.range n) (fun _ => (8 : Int)) = 8 * (n : Int) := fun n => by
    induction n with
    | zero => rfl
    | succ n ih => rw [List.range_succ, sm_append, ih, sm_cons, sm_nil]; omega
  rw [h2] at h1
  have := s.n
  have h3 : W.n = W.lists.length := rfl
  omega
def spLaid (Cp Cw PLa : Addr) : Sp := fun vs H Q _ => ∃ (B : Amb) (p : Addr) (W : Wt) (b : Bool), vs = [.ref p, .bl b] ∧ TK B H ∧ PLa ∈ B.TG ∧ WantAt B.X Cw H p W ∧ W.Ok ∧ Small W ∧
  ∀ H' t pp r g, Gr B H H' → H g = none → H r = none → H' t = some (.tup [.ref pp, .int (kS W), .int (kE W), .int (must W b)]) → PipeAt Cp H' pp r g (W.n + W.m + 4) (opsOf W b) (fun _ _ => 0) → Q (.ref t) H'
theorem scLaid : FnScope ["wants", "least", "many", "start", "end", "pipes", "must", "asker", "low", "high", "room"] ["wants", "least"] (defScope sLaid) := ⟨rfl, rfl, rfl, by decide +kernel, rfl, by decide +kernel, by decide +kernel⟩
theorem ok_laid {f c PLa : Addr} {fd : FuncData} (F : FunC K "laid" "laid" sLaid f c fd) (TB : GxR.TabB base mg c PLa) (X : All K mg Cp Cw cBS fM fF fI fL fW fdM fdF fdI fdL fdW) : FnOk P w K mg base CX0 3 f fd ["wants", "least"] (spLaid Cp Cw PLa) := by
  refine F.ok scLaid (fun vs H Q E h => ?_) (fun A outer s H vs Q E hr h => ?_)
  · obtain ⟨B, p, W, b, rfl, _⟩ := h
    rfl
  · obtain ⟨B, p, W, b, rfl, tk, hPLa, WA, ok, sm_, k⟩ := h
    refine ⟨_, pss_S, ?_⟩
    -- many = len(wants.lists)
    refine ss_cons (s_set 2 scLaid.nd (EV.go tk (EV.to (ev_len rfl X.Y.ln (ev_lists X.Y.T (ex_var 0) WA) sq_lists) (d' := .int (W.n : Int)) (by rw [List.length_map]; rfl)) fun v H1 g1 hv => ?_))
    rw [hv.int_eq]
    have WA1 := WA.mono g1
    -- start, end = many + len(wants.rooms), many + len(wants.rooms) + 1
    refine ss_cons (of_ps (ps_par (i := 3) (j := 4) rfl scLaid.nd rfl rfl (by decide) rfl rfl (pa_cons pe_S (pa_cons pe_S pa_nil)) rfl) ?_)
    refine EV.go g1.tk (ev_add (ex_var 2).int (EV.to (ev_len rfl X.Y.ln (ev_rooms X.Y.T (ex_var 0) WA1) sq_bnd) (d' := .int (W.m : Int)) (by rw [List.length_map]; rfl))) fun v1 H2 g2 hv1 => ?_
    have WA2 := WA1.mono g2
    refine EV.go g2.tk (ev_add (ev_add (ex_var 2).int (EV.to (ev_len rfl X.Y.ln (ev_rooms X.Y.T (ex_var 0) WA2) sq_bnd) (d' := .int (W.m : Int)) (by rw [List.length_map]; rfl))) ev_int) fun v2 H3 g3 hv2 => ⟨_, _, rfl, ?_⟩
    rw [hv1.int_eq, hv2.int_eq]
    have WA3 := WA2.mono g3
    have g03 := g1.trans (g2.trans g3)
    -- pipes, must = Pipes(end + 3), 0
    refine ss_cons (of_ps (ps_par (i := 5) (j := 6) rfl scLaid.nd rfl rfl (by decide) rfl rfl (pa_cons pe_S (pa_cons pe_int pa_nil)) rfl) ?_)
    refine t_pipes rfl rfl X (k := 0) hr rfl g3.tk (m := W.n + W.m + 4) (EV.to (ev_add (ex_var 4).int ev_int) (congrArg PyData.int (by omega))) fun pp r g H4 g4 hr0 hg0 hp0 PA4 => ⟨_, _, rfl, ?_⟩
    have g04 := g03.trans g4
    have hrN : H r = none := g03.dom _ hr0
    have hgN : H g = none := g03.dom _ hg0
    obtain ⟨kr4, er4, _⟩ := PA4.rm.ex
    obtain ⟨kg4, eg4, _⟩ := PA4.gg.ex
    have hN2 : ∀ a ∈ [r, g], H a = none := fun a ha => by
      simp at ha
      rcases ha with e | e
      · rw [e]; exact hrN
      · rw [e]; exact hgN
    have tkB : TK (B.plus [r, g]) H4 := g4.tk.plus fun a ha => by
      simp at ha
      rcases ha with e | e
      · rw [e, er4]; exact fun z => by cases z
      · rw [e, eg4]; exact fun z => by cases z
    have gB4 : Gr (B.plus [r, g]) H H4 := ⟨g04.keep, tkB, g04.dom⟩
    have WB4 : WantAt (B.plus [r, g]).X Cw H4 p W := (WA.plus hN2).mono gB4
    have hpS : p ∉ [r, g] := fun z => by
      obtain ⟨_, _, _, _, e, _⟩ := WA.ex
      rw [hN2 p z] at e; cases e
    have subS : ∀ a ∈ [r, g], a ∈ (B.plus [r, g]).X := fun a ha => List.mem_append_left _ ha
    have hlen : W.askers.length = W.n := ok.len
    have hnn : W.n ≤ 8 := sm_.n
    have hmm : W.m ≤ 8 := sm_.m
    -- for asker, (low, high) in enumerate(wants.askers)
    refine ss_cons (s_for (B := B.plus [r, g]) tkB PassesOwn.never rfl (ei_enumT rfl X.en (ev_askers X.Y.T (ex_var 0) WB4)) fun H5 g5 => ?_)
    have WB5 := WB4.mono g5
    have PA5 := PA4.mono g5
    refine ⟨.two (.nm 7) (.two (.nm 8) (.nm 9)), fun i σ' H' => ∃ (o7 o8 o9 o10 : Option V), σ' = [some (.ref p), some (.bl b), some (.int (W.n : Int)), some (.int (kS W)), some (.int (kE W)), some (.ref pp), some (.int (mustA W b i)), o7, o8, o9, o10] ∧ Gw (B.plus [r, g]) [r, g] H5 H' ∧ PipeAt Cp H' pp r g (W.n + W.m + 4) (askAll W b i) (fun _ _ => 0),
      eg_ct rfl (eg_cn scLaid.nd rfl (.inl rfl) (.inl rfl)) (eg_ct rfl (eg_cn scLaid.nd rfl (.inl rfl) (.inl rfl)) (eg_cn scLaid.nd rfl (.inl rfl) (.inl rfl))), fun d hd => ?_, ⟨_, _, _, _, rfl, (Gr.refl g5.tk).w, PA5⟩, fun i σ' H' _ ⟨_, _, _, _, _, gw, _⟩ => gw.x subS, ?_, ?_⟩
    · obtain ⟨i, pr, _, rfl⟩ := enum_mem hd
      exact ⟨_, _, rfl, True.intro, _, _, rfl, True.intro, True.intro⟩
    · rintro i d σ' H' H6 σ2 hi ⟨o7, o8, o9, o10, rfl, gw, PA6⟩ g6 ⟨d1, d2, σ3, ed, ⟨u1, rfl, hu1⟩, d3, d4, σ4, ed2, ⟨u2, rfl, hu2⟩, ⟨u3, rfl, hu3⟩⟩
      obtain ⟨pr, hpr, rfl⟩ := enum_pD hi
      cases ed
      cases ed2
      rw [hu1.int_eq, hu2.int_eq, hu3.int_eq]
      obtain ⟨ea1, ea2⟩ := ask_at hpr
      have hin : i < W.n := by rw [← hlen]; exact (List.getElem?_eq_some_iff.mp hpr).1
      obtain ⟨b1, b2⟩ := ok.ab i hin
      have PA7 := PA6.mono g6
      have gw7 := gw.trans g6.w
      have l1 := askAll_len sm_ b i
      -- pipes.lay(start, asker, high - low if least else high)
      refine ss_cons (s_lay rfl rfl X (k := 1) hr g6.tk PA7 (by omega) (z := if b = true then W.ahi i - W.alo i else W.ahi i) (by split <;> omega) (ex_var 5) (ex_var 3).int (ex_var 7).int (ev_if (et_val (EVP.bool (ex_var 1))) (fun hb => EV.to (ev_sub (ex_var 9).int (ex_var 8).int) (by rw [if_pos hb, ea1, ea2])) (fun hb => EV.to (ex_var 9).int (by rw [if_neg (by rw [hb]; decide), ea2]))) fun H8 w8 PA8 => ?_)
      -- if least and low > 0
      refine ss_if (fun σ' H9 => ∃ m2 : Int, σ' = [some (.ref p), some (.bl b), some (.int (W.n : Int)), some (.int (kS W)), some (.int (kE W)), some (.ref pp), some (.int m2), some (.int (i : Int)), some (.int pr.1), some (.int pr.2), o10] ∧ Gw (B.plus [r, g]) [r, g] H5 H9 ∧ m2 = mustA W b (i + 1) ∧
          PipeAt Cp H9 pp r g (W.n + W.m + 4) (askAll W b i ++ [(kS W, (i : Int), if b = true then W.ahi i - W.alo i else W.ahi i)] ++ extra b (W.alo i) [(kE W + 1, (i : Int), W.alo i), (kS W, kE W + 2, W.alo i)]) (fun _ _ => 0))
        (ET.go (B := B.plus [r, g]) w8.tk (et_and (et_val (EVP.bool (ex_var 1))) fun _ => et_cmp (co_gt (n := pr.1) (m := 0)) (ex_var 8).int ev_int) fun H9 g9 => ⟨fun z => ?_, fun z => ss_nil ?_⟩) (fun σ' H9 ⟨m2, e9, gw9, em2, PA9⟩ => ?_)
      · rw [Bool.and_eq_true, decide_eq_true_eq] at z
        have PA9 := PA8.mono g9
        refine ss_cons (s_lay rfl rfl X (k := 1) hr g9.tk PA9 (by simp only [List.length_append, List.length_singleton]; omega) (z := W.alo i) b1 (ex_var 5) (ev_add (ex_var 4).int ev_int) (ex_var 7).int (EV.to (ex_var 8).int (by rw [ea1])) fun H10 w10 PA10 => ?_)
        refine ss_cons (s_lay rfl rfl X (k := 1) hr w10.tk PA10 (by simp only [List.length_append, List.length_singleton]; omega) (z := W.alo i) b1 (ex_var 5) (ex_var 3).int (ev_add (ex_var 4).int ev_int) (EV.to (ex_var 8).int (by rw [ea1])) fun H11 w11 PA11 => ?_)
        refine ss_cons (s_aug 6 scLaid.nd ip_add rfl ((ex_var (B := B.plus [r, g]) 8).go w11.tk fun v H12 g12 ev => ⟨_, _, rfl, ev, ss_nil ⟨_, rfl, gw7.trans (w8.trans (g9.w.trans (w10.trans (w11.trans g12.w)))), ?_, ?_⟩⟩))
        · rw [mustA_succ, if_pos ⟨z.1, by rw [ea1]; exact z.2⟩, ea1]
        · have e3 : extra b (W.alo i) [(kE W + 1, (i : Int), W.alo i), (kS W, kE W + 2, W.alo i)] = [(kE W + 1, (i : Int), W.alo i), (kS W, kE W + 2, W.alo i)] := by
            unfold extra
            rw [if_pos ⟨z.1, by rw [ea1]; exact z.2⟩]
          rw [e3]
          have := PA11.mono g12
          rw [List.append_assoc (askAll W b i ++ _)] at this
          exact this
      · have hno : ¬ (b = true ∧ 0 < W.alo i) := fun hh => by
          rw [hh.1, decide_eq_true (by rw [← ea1]; exact hh.2)] at z
          exact absurd z (by decide)
        refine ⟨_, rfl, gw7.trans (w8.trans g9.w), ?_, ?_⟩
        · rw [mustA_succ, if_neg hno, Int.add_zero]
        · have e3 : extra b (W.alo i) [(kE W + 1, (i : Int), W.alo i), (kS W, kE W + 2, W.alo i)] = [] := by
            unfold extra
            rw [if_neg hno]
          rw [e3, List.append_nil]
          exact PA8.mono g9
      · subst e9
        have WB9 := WB5.w gw9 subS hpS
        refine ss_cons (s_for (B := B.plus [r, g]) gw9.tk PassesOwn.never rfl (ei_tup (ev_ix (ev_lists X.Y.T (ex_var 0) WB9) sq_lists (ex_var 7).int (Int.toNat_of_nonneg (Int.natCast_nonneg i)).symm (row_at (W := W) (a := (i : Int)) ⟨Int.natCast_nonneg i, by exact_mod_cast hin⟩))) fun H10 g10 => ?_)
        rw [Int.toNat_natCast]
        have PA10 := PA9.mono g10
        have gw10 := gw9.trans g10.w
        refine ⟨.nm 10, fun j σ' H' => ∃ (o : Option V), σ' = [some (.ref p), some (.bl b), some (.int (W.n : Int)), some (.int (kS W)), some (.int (kE W)), some (.ref pp), some (.int m2), some (.int (i : Int)), some (.int pr.1), some (.int pr.2), o] ∧ Gw (B.plus [r, g]) [r, g] H10 H' ∧
            PipeAt Cp H' pp r g (W.n + W.m + 4) (askAll W b i ++ [(kS W, (i : Int), if b = true then W.ahi i - W.alo i else W.ahi i)] ++ extra b (W.alo i) [(kE W + 1, (i : Int), W.alo i), (kS W, kE W + 2, W.alo i)] ++ ((W.row i).take j).map fun r => ((i : Int), (W.n : Int) + r, (1 : Int))) (fun _ _ => 0),
          eg_cn scLaid.nd rfl (.inl rfl) (.inl rfl), fun _ _ => True.intro, ⟨_, rfl, (Gr.refl g10.tk).w, by rw [List.take_zero, List.map_nil, List.append_nil]; exact PA10⟩, fun j σ' H' _ ⟨_, _, gw, _⟩ => gw.x subS, ?_, ?_⟩
        · rintro j d σ' H' H11 σ2 hj ⟨o, rfl, gw11, PA11⟩ g11 ⟨u, rfl, hu⟩
          obtain ⟨y, hy, rfl⟩ := iD_at hj
          rw [hu.int_eq]
          have hjl := (List.getElem?_eq_some_iff.mp hy).1
          have hrl := sm_.row i
          have hex := extra_len b (W.alo i) [(kE W + 1, (i : Int), W.alo i), (kS W, kE W + 2, W.alo i)]
          have h2 : [(kE W + 1, (i : Int), W.alo i), (kS W, kE W + 2, W.alo i)].length = 2 := rfl
          refine ss_cons (s_lay rfl rfl X (k := 1) hr g11.tk (PA11.mono g11) (by simp only [List.length_append, List.length_map, List.length_take, List.length_singleton]; omega) (z := 1) (by decide) (ex_var 5) (ex_var 7).int (ev_add (ex_var 2).int (ex_var 10).int) ev_int fun H12 w12 PA12 => ss_nil ⟨_, rfl, gw11.trans (g11.w.trans w12), ?_⟩)
          have e1 : (W.row i).take (j + 1) = (W.row i).take j ++ [y] := by rw [List.take_add_one, hy]; rfl
          rw [e1, List.map_append]
          rw [List.append_assoc] at PA12
          exact PA12
        · rintro σ' H' ⟨o, rfl, gw11, PA11⟩
          refine ss_nil ⟨_, _, _, _, by rw [em2], gw10.trans gw11, ?_⟩
          rw [iD_len, List.take_length] at PA11
          rw [askAll_succ]
          have e2 : askAll W b i ++ [(kS W, (i : Int), if b = true then W.ahi i - W.alo i else W.ahi i)] ++ extra b (W.alo i) [(kE W + 1, (i : Int), W.alo i), (kS W, kE W + 2, W.alo i)] ++ (W.row i).map (fun r => ((i : Int), (W.n : Int) + r, (1 : Int))) = askAll W b i ++ askOps W b i := by
            unfold askOps
            simp
          rw [← e2]
          exact PA11
    · rintro σ' H' ⟨o7, o8, o9, o10, rfl, gw6, PA6⟩
      rw [enumD_len, List.length_map, hlen] at PA6 ⊢
      have WB6 := WB5.w gw6 subS hpS
      have lA := askAll_len sm_ b W.n
      -- for room, (low, high) in enumerate(wants.rooms)
      refine ss_cons (s_for (B := B.plus [r, g]) gw6.tk PassesOwn.never rfl (ei_enumT rfl X.en (ev_rooms X.Y.T (ex_var 0) WB6)) fun H7 g7 => ?_)
      have PA7 := PA6.mono g7
      refine ⟨.two (.nm 10) (.two (.nm 8) (.nm 9)), fun i σ' H' => ∃ (o8 o9 o10 : Option V), σ' = [some (.ref p), some (.bl b), some (.int (W.n : Int)), some (.int (kS W)), some (.int (kE W)), some (.ref pp), some (.int (mustA W b W.n + mustR W b i)), o7, o8, o9, o10] ∧ Gw (B.plus [r, g]) [r, g] H7 H' ∧ PipeAt Cp H' pp r g (W.n + W.m + 4) (askAll W b W.n ++ roomAll W b i) (fun _ _ => 0),
        eg_ct rfl (eg_cn scLaid.nd rfl (.inl rfl) (.inl rfl)) (eg_ct rfl (eg_cn scLaid.nd rfl (.inl rfl) (.inl rfl)) (eg_cn scLaid.nd rfl (.inl rfl) (.inl rfl))), fun d hd => ?_, ⟨o8, o9, o10, by rw [show mustR W b 0 = 0 from rfl, Int.add_zero], (Gr.refl g7.tk).w, by rw [show roomAll W b 0 = [] from rfl, List.append_nil]; exact PA7⟩, fun i σ' H' _ ⟨_, _, _, _, gw, _⟩ => gw.x subS, ?_, ?_⟩
      · obtain ⟨i, pr, _, rfl⟩ := enum_mem hd
        exact ⟨_, _, rfl, True.intro, _, _, rfl, True.intro, True.intro⟩
      · rintro i d σ' H' H8 σ2 hi ⟨o8, o9, o10, rfl, gw, PA8⟩ g8 ⟨d1, d2, σ3, ed, ⟨u1, rfl, hu1⟩, d3, d4, σ4, ed2, ⟨u2, rfl, hu2⟩, ⟨u3, rfl, hu3⟩⟩
        obtain ⟨pr, hpr, rfl⟩ := enum_pD hi
        cases ed
        cases ed2
        rw [hu1.int_eq, hu2.int_eq, hu3.int_eq]
        obtain ⟨ea1, ea2⟩ := room_at hpr
        have hin : i < W.m := (List.getElem?_eq_some_iff.mp hpr).1
        obtain ⟨b1, b2⟩ := ok.rb i hin
        have PA9 := PA8.mono g8
        have gw9 := gw.trans g8.w
        have l1 := roomAll_len W b i
        -- pipes.lay(many + room, end, high - low if least else high)
        refine ss_cons (s_lay rfl rfl X (k := 1) hr g8.tk PA9 (by rw [List.length_append]; omega) (z := if b = true then W.rhi i - W.rlo i else W.rhi i) (by split <;> omega) (ex_var 5) (ev_add (ex_var 2).int (ex_var 10).int) (ex_var 4).int (ev_if (et_val (EVP.bool (ex_var 1))) (fun hb => EV.to (ev_sub (ex_var 9).int (ex_var 8).int) (by rw [if_pos hb, ea1, ea2])) (fun hb => EV.to (ex_var 9).int (by rw [if_neg (by rw [hb]; decide), ea2]))) fun H10 w10 PA10 => ?_)
        -- if least and low > 0
        refine ss_if (fun σ' H9 => ∃ m2 : Int, σ' = [some (.ref p), some (.bl b), some (.int (W.n : Int)), some (.int (kS W)), some (.int (kE W)), some (.ref pp), some (.int m2), o7, some (.int pr.1), some (.int pr.2), some (.int (i : Int))] ∧ Gw (B.plus [r, g]) [r, g] H7 H9 ∧ m2 = mustA W b W.n + mustR W b (i + 1) ∧
            PipeAt Cp H9 pp r g (W.n + W.m + 4) (askAll W b W.n ++ roomAll W b (i + 1)) (fun _ _ => 0))
          (ET.go (B := B.plus [r, g]) w10.tk (et_and (et_val (EVP.bool (ex_var 1))) fun _ => et_cmp (co_gt (n := pr.1) (m := 0)) (ex_var 8).int ev_int) fun H11 g11 => ⟨fun z => ?_, fun z => ss_nil ?_⟩) (fun σ' H9 ⟨m2, e9, gw9', em2, PA9'⟩ => ?_)
        · rw [Bool.and_eq_true, decide_eq_true_eq] at z
          have PA11 := PA10.mono g11
          refine ss_cons (s_lay rfl rfl X (k := 1) hr g11.tk PA11 (by simp only [List.length_append, List.length_singleton]; omega) (z := W.rlo i) b1 (ex_var 5) (ev_add (ex_var 2).int (ex_var 10).int) (ev_add (ex_var 4).int ev_int) (EV.to (ex_var 8).int (by rw [ea1])) fun H12 w12 PA12 => ?_)
          refine ss_cons (s_lay rfl rfl X (k := 1) hr w12.tk PA12 (by simp only [List.length_append, List.length_singleton]; omega) (z := W.rlo i) b1 (ex_var 5) (ev_add (ex_var 4).int ev_int) (ex_var 4).int (EV.to (ex_var 8).int (by rw [ea1])) fun H13 w13 PA13 => ?_)
          refine ss_cons (s_aug 6 scLaid.nd ip_add rfl ((ex_var (B := B.plus [r, g]) 8).go w13.tk fun v H14 g14 ev => ⟨_, _, rfl, ev, ss_nil ⟨_, rfl, gw9.trans (w10.trans (g11.w.trans (w12.trans (w13.trans g14.w)))), ?_, ?_⟩⟩))
          · rw [mustR_succ, if_pos ⟨z.1, by rw [ea1]; exact z.2⟩, ea1]
            exact Int.add_assoc _ _ _
          · have e3 : roomOps W b i = [((W.n : Int) + (i : Int), kE W, if b = true then W.rhi i - W.rlo i else W.rhi i), ((W.n : Int) + (i : Int), kE W + 2, W.rlo i), (kE W + 1, kE W, W.rlo i)] := by
              have e4 : extra b (W.rlo i) [((W.n : Int) + (i : Int), kE W + 2, W.rlo i), (kE W + 1, kE W, W.rlo i)] = [((W.n : Int) + (i : Int), kE W + 2, W.rlo i), (kE W + 1, kE W, W.rlo i)] := by
                unfold extra
                rw [if_pos ⟨z.1, by rw [ea1]; exact z.2⟩]
              unfold roomOps
              rw [e4]
            rw [roomAll_succ, e3]
            have := PA13.mono g14
            simp only [List.append_assoc, List.cons_append, List.nil_append] at this ⊢
            exact this
        · have hno : ¬ (b = true ∧ 0 < W.rlo i) := fun hh => by
            rw [hh.1, decide_eq_true (by rw [← ea1]; exact hh.2)] at z
            exact absurd z (by decide)
          refine ⟨_, rfl, gw9.trans (w10.trans g11.w), ?_, ?_⟩
          · rw [mustR_succ, if_neg hno, Int.add_zero]
          · have e3 : roomOps W b i = [((W.n : Int) + (i : Int), kE W, if b = true then W.rhi i - W.rlo i else W.rhi i)] := by
              have e4 : extra b (W.rlo i) [((W.n : Int) + (i : Int), kE W + 2, W.rlo i), (kE W + 1, kE W, W.rlo i)] = [] := by
                unfold extra
                rw [if_neg hno]
              unfold roomOps
              rw [e4]
            rw [roomAll_succ, e3, ← List.append_assoc]
            exact PA10.mono g11
        · subst e9
          exact ss_nil ⟨_, _, _, by rw [em2], gw9', PA9'⟩
      · rintro σ' H' ⟨o8, o9, o10, rfl, gw8, PA8⟩
        rw [enumD_len, List.length_map] at PA8 ⊢
        have lR := roomAll_len W b W.rooms.length
        have hmm' : W.rooms.length ≤ 8 := sm_.m
        have gwA := gw6.trans (g7.w.trans gw8)
        have WB8 := WB5.w gwA subS hpS
        -- if least: pipes.lay(end, start, sum(..) + must + 1)
        refine ss_if (fun σ' H9 => σ' = [some (.ref p), some (.bl b), some (.int (W.n : Int)), some (.int (kS W)), some (.int (kE W)), some (.ref pp), some (.int (must W b)), o7, o8, o9, o10] ∧ Gw (B.plus [r, g]) [r, g] H5 H9 ∧ PipeAt Cp H9 pp r g (W.n + W.m + 4) (opsOf W b) (fun _ _ => 0))
          (ET.go (B := B.plus [r, g]) (b := b) gw8.tk (et_val (EVP.bool (ex_var 1))) fun H9 g9 => ⟨fun z => ?_, fun z => ss_nil ⟨rfl, gwA.trans g9.w, ?_⟩⟩) (fun σ' H9 ⟨e9, gw9, PA9⟩ => ?_)
        · have WB9 := WB8.mono g9
          refine ss_cons (s_lay rfl rfl X (k := 1) hr g9.tk (PA8.mono g9) (by rw [List.length_append]; have : W.rooms.length = W.m := rfl; omega) (z := links W + must W b + 1) (by have := links_nonneg (W := W); have := must_nonneg (W := W) (least := b); omega) (ex_var 5) (ex_var 4).int (ex_var 3).int (ev_add (ev_add (EVP.int (evp_gen1 .sum (k := 0) (N := [".0", "row"]) (fr := []) (js := []) (pat := .nm 1) (xs := W.lists.map rowD) (outs := oR)
            (hr.mono (by decide)) rfl X.Y.sm (gtxt (defScope sLaid) TB (by decide +kernel)) hPLa (ei_list (ev_lists X.Y.T (ex_var 0) WB9)) (eg_gn (by decide +kernel) rfl rfl) (fun _ _ => True.intro) ?_ (fun σ => ∃ a, σ = [none, a]) ⟨none, rfl⟩ ?_ ?_)) (ex_var 6).int) ev_int) fun H10 w10 PA10 => ss_nil ⟨rfl, gwA.trans (g9.w.trans w10), ?_⟩)
          · intro d hd d' hd'
            obtain ⟨row, _, rfl⟩ := List.mem_map.mp hd
            cases hd'
            exact .inr ⟨_, rfl⟩
          · rintro d hd H6 σ1 σ2 g6 ⟨a1, rfl⟩ ⟨w1, rfl, hw1⟩
            obtain ⟨row, _, rfl⟩ := List.mem_map.mp hd
            refine ⟨⟨_, rfl⟩, item_all fun C' hC' => ?_⟩
            obtain ⟨A', s', H', cc, code, fp, pn, hA', rfl⟩ := hC'
            exact ev_len rfl X.Y.ln (ev_var 1) (.inr rfl)
          · have e1 : (W.lists.map rowD).filterMap oR = (W.lists.map fun row => (row.length : Int)).map PyData.int := by
              rw [fm_map (enc := rowD) (outs := oR) (f := fun row => .int (row.length : Int)) (fun row => by show some (PyData.int ((iD row).length : Int)) = _; rw [iD_len]), List.map_map]
              rfl
            have h0 : ∀ k ∈ W.lists.map (fun row => (row.length : Int)), (0 : Int) ≤ k := fun k hk => by
              obtain ⟨row, _, rfl⟩ := List.mem_map.mp hk
              exact Int.natCast_nonneg _
            have hls := links_small sm_
            have sm2 := small_sum h0 (by rw [links_sum]; omega)
            have := k_sum e1 sm2.1 sm2.2
            rw [links_sum] at this
            exact this
          · have e3 : opsOf W b = askAll W b W.n ++ roomAll W b W.m ++ [(kE W, kS W, links W + must W b + 1)] := by
              unfold opsOf lastOps
              rw [if_pos z]
            rw [e3]
            exact PA10
        · have e3 : opsOf W b = askAll W b W.n ++ roomAll W b W.m := by
            unfold opsOf lastOps
            rw [if_neg (by rw [z]; decide), List.append_nil]
          rw [e3]
          exact PA8.mono g9
        · subst e9
          -- return (pipes, start, end, must)
          refine ss_cons (s_ret (of_pe (pe_tup (pa_cons (pv 5) (pa_cons (pv 3) (pa_cons (pv 4) (pa_cons (pv 6) pa_nil))))) ⟨_, rfl, _, rfl, _, rfl, _, rfl, (by show 4 ≤ sizeLine; decide), fun t ht => ?_⟩))
          have gEnd : Gr B H H9 := (Gw.minus ((g5.w (S := [r, g])).trans gw9)).gr g04 hN2
          have gt := Gr.new (o := .tup [V.ref pp, .int (kS W), .int (kE W), .int (must W b)]) gEnd.tk ht
          exact k _ t pp r g (gEnd.trans gt) hgN hrN upd_same (PA9.mono gt)
end
end K22
end
section
set_option Elab.async false
set_option linter.all false
set_option maxRecDepth 100000
set_option maxHeartbeats 4000000
/-! K22Lc2: list comprehensions with two clauses, over the layer of data. -/
namespace K22
open PySem PySem.Spec PyProof.Rows L2 NdefX Pm
theorem Put.monoX {B : Amb} {H H' : Hp} (g : Gx B H H') : ∀ {pat : Pat} {d : PyData} {σ σ' : L2.St}, Put B.X H pat d σ σ' → Put B.X H' pat d σ σ'
  | .nm i, d, σ, σ', h => by
    obtain ⟨v, e, hv⟩ := h
    exact ⟨v, e, hv.monoX g⟩
  | .two p q, d, σ, σ', h => by
    obtain ⟨d1, d2, σ1, e, h1, h2⟩ := h
    exact ⟨d1, d2, σ1, e, Put.monoX g h1, Put.monoX g h2⟩
theorem Put.plus {B : Amb} {l : List Addr} {H : Hp} (hl : ∀ a ∈ l, ∀ v d, Is B.X H v d → Is (B.plus l).X H v d) (hn : l ≠ []) : ∀ {pat : Pat} {d : PyData} {σ σ' : L2.St}, Put B.X H pat d σ σ' → Put (B.plus l).X H pat d σ σ'
  | .nm i, d, σ, σ', h => by
    obtain ⟨v, e, hv⟩ := h
    obtain ⟨a, ha⟩ := List.exists_mem_of_ne_nil l hn
    exact ⟨v, e, hl a ha v d hv⟩
  | .two p q, d, σ, σ', h => by
    obtain ⟨d1, d2, σ1, e, h1, h2⟩ := h
    exact ⟨d1, d2, σ1, e, Put.plus hl hn h1, Put.plus hl hn h2⟩
theorem LF.apart {X : List Addr} {D : Addr} {H : Hp} {ws : List V} (hD : H D = some (.lst ws)) {v : V} {d : PyData} (h : Is X H v d) : LF d → Is ([D] ++ X) H v d := by
  induction h with
  | non => exact fun _ => .non
  | bl b => exact fun _ => .bl b
  | int i => exact fun _ => .int i
  | str x => exact fun _ => .str x
  | lst e hx hl _ ih => exact fun z => by cases z
  | tup e hx hl _ ih =>
    intro z
    cases z with
    | tup hz =>
      refine .tup e (fun q => (List.mem_append.mp q).elim (fun q => by rw [List.mem_singleton.mp q, hD] at e; cases e) hx) hl fun i w d' h1 h2 => ih i w d' h1 h2 (hz d' (List.mem_of_getElem? h2))
/-- the new list D holds L so far -/
def LSt (B : Amb) (D : Addr) (H2 H' : Hp) (L : List PyData) : Prop := ∃ vs', H' D = some (.lst vs') ∧ Iss B.X H' vs' L ∧ Gr (B.plus [D]) H2 H'
theorem flat_len {α β : Type} {f : α → List β} {c : Nat} : ∀ {l : List α}, (∀ a ∈ l, (f a).length ≤ c) → (l.flatMap f).length ≤ c * l.length
  | [], _ => Nat.zero_le _
  | a :: l, h => by
    rw [List.flatMap_cons, List.length_append, List.length_cons]
    have h1 := h a List.mem_cons_self
    have h2 := flat_len (l := l) fun b hb => h b (List.mem_cons_of_mem _ hb)
    rw [Nat.mul_succ]
    omega
section
variable {B : Amb} {C : Cx} {tg iter tg1 iter1 elt : Expr} {ifs1 : List Expr} {σ : L2.St} {H : Hp} {pos : Pos} {scope : Scope} {own : List (Str × Nat)} {vs1 : List Nat} {pat pat1 : Pat} {xs : List PyData} {inner : PyData → List PyData} {outs2 : PyData → PyData → Option PyData}
/-- [elt for target in iter for target1 in iter1 if ..] -/
theorem ev_lc2 (hiB : EI B C tg iter σ H xs) (hlen : xs.length ≤ 1000) (hlen1 : ∀ d ∈ xs, (inner d).length ≤ 1000) (hc : C.calm = true) (hN : C.N.Nodup) (ok : BlkOk C.N C.env.scope scope own) (hv : ∀ i ∈ vs1, i ∈ own.map (·.2))
    (hg : ∀ B', EG B' (Blk C scope) tg pat) (hg1 : ∀ B', EG B' (Blk C scope) tg1 pat1) (hsh : ∀ d ∈ xs, Shape pat d) (hsh1 : ∀ d ∈ xs, ∀ d1 ∈ inner d, Shape pat1 d1) (hfl : ∀ d ∈ xs, LF d) (hlf : ∀ d ∈ xs, ∀ d1 ∈ inner d, ∀ d', outs2 d d1 = some d' → LF d')
    (hin : ∀ D, H D = none → ∀ d ∈ xs, ∀ H3 σ2, Gr (B.plus [D]) H H3 → Put (B.plus [D]).X H3 pat d (wipe σ (own.map (·.2))) σ2 → wipe σ2 (own.map (·.2)) = wipe σ (own.map (·.2)) ∧ ∀ C', Blk C scope C' → EI (B.plus [D]) C' tg1 iter1 σ2 H3 (inner d))
    (item : ∀ D, H D = none → ∀ d ∈ xs, ∀ d1 ∈ inner d, ∀ H3 σ2 σ3, Gr (B.plus [D]) H H3 → Put (B.plus [D]).X H3 pat d (wipe σ (own.map (·.2))) σ2 → Put (B.plus [D]).X H3 pat1 d1 (wipe σ2 vs1) σ3 → wipe σ3 vs1 = wipe σ2 vs1 ∧ Item (B.plus [D]) (Blk C scope) ifs1 elt σ3 H3 (outs2 d d1))
    (hs : ∀ x, foldedSetIterable iter C.env x = pure x := by intro _; rfl) (hs1 : ∀ env x, foldedSetIterable iter1 env x = pure x := by intro _ _; rfl) :
    EV B C (.ListComp elt [⟨tg, iter, [], 0⟩, ⟨tg1, iter1, ifs1, 0⟩] scope pos) σ H (.list (xs.flatMap fun d => (inner d).filterMap (outs2 d))) := fun H1 g Q q => by
  obtain ⟨wi, pi, hwi⟩ := hiB
  refine of_pe (pe_lc2 hc hN pi ok hv (fun s H c cl fp => pg_F (F := Blk C scope) ⟨s, H, c, cl, fp, rfl⟩) (fun s H c cl fp => pts_F (F := Blk C scope) (ifs := []) ⟨s, H, c, cl, fp, rfl⟩) (fun s H c cl fp => ⟨fun pins s0 σ H R I q => q _ ⟨s, _, c, cl, fp, rfl⟩ pins s0 I⟩ : ∀ (s : Shared) (H : Hp) (c : Addr) (cl : List (Str × Addr)) (fp : List Addr), PI (C.blk s H scope (compEnvC scope cl c C.env) fp) tg1 iter1 (FI (Blk C scope) tg1 iter1))
    (fun s H c cl fp => pg_F (F := Blk C scope) ⟨s, H, c, cl, fp, rfl⟩) (fun s H c cl fp => pts_F (F := Blk C scope) ⟨s, H, c, cl, fp, rfl⟩) (fun s H c cl fp => pe_F (F := Blk C scope) ⟨s, H, c, cl, fp, rfl⟩) hs hs1) ?_
  refine hwi H1 g _ fun J H2 g2 hw D hD => ?_
  have hDH : H D = none := (g.trans g2).dom _ hD
  obtain ⟨gg, hgg, kg⟩ := hg (B.plus [D])
  obtain ⟨gg1, hgg1, kg1⟩ := hg1 (B.plus [D])
  have hDX : D ∉ B.X := g2.tk.notX hD
  have g02 := g.trans g2
  -- grown, with D
  have up : ∀ {H'}, Gr (B.plus [D]) H2 H' → Gr (B.plus [D]) H H' := fun {H'} g' => ⟨fun a o e n => g'.keep a o (g02.keep a o e n) n, g'.tk, fun a z => g02.dom a (g'.dom a z)⟩
  have lfAll : ∀ (ys : List PyData), (∀ d ∈ ys, d ∈ xs) → ∀ dd ∈ ys.flatMap (fun d => (inner d).filterMap (outs2 d)), LF dd := fun ys hys dd hdd => by
    obtain ⟨d, hd, h⟩ := List.mem_flatMap.mp hdd
    obtain ⟨d1, h1, h2⟩ := List.mem_filterMap.mp h
    exact hlf d (hys d hd) d1 h1 dd h2
  have lenAll : ∀ (ys : List PyData), (∀ d ∈ ys, d ∈ xs) → (ys.flatMap fun d => (inner d).filterMap (outs2 d)).length ≤ 1000 * ys.length := fun ys hys => flat_len fun d hd => Nat.le_trans (List.length_filterMap_le _ _) (hlen1 d (hys d hd))
  refine ⟨fun i m H' => m = xs.length - i ∧ i ≤ xs.length ∧ LSt B D H2 H' ((xs.take i).flatMap fun d => (inner d).filterMap (outs2 d)), ⟨xs.length, by simp, Nat.zero_le _, [], upd_same, .nil, ?_⟩, ?_⟩
  · have g3 := Gr.new (o := .lst []) g2.tk hD
    exact ⟨g3.keep, g3.tk.plus (fun a ha => by rw [List.mem_singleton.mp ha, upd_same]; exact fun z => (by cases z)), g3.dom⟩
  rintro i m H' ⟨rfl, hi, vs', hDl, iss, gr2⟩
  have gw2 : Gx B H2 H' := (gr2.minus).x
  cases hd : xs[i]? with
  | none =>
    have e : i = xs.length := by
      have := List.getElem?_eq_none_iff.mp hd
      omega
    refine .inl ⟨(hw H' i gw2).2 e, q _ H' (g2.trans gr2.minus) ?_⟩
    rw [e, List.take_length] at iss
    exact .lst hDl hDX iss.1 iss.2
  | some d =>
    have hlt : i < xs.length := (List.getElem?_eq_some_iff.mp hd).1
    have hmem : d ∈ xs := List.mem_of_getElem? hd
    obtain ⟨hgo, hy⟩ := (hw H' i gw2).1 d hd
    have tk1 : xs.take (i + 1) = xs.take i ++ [d] := by rw [List.take_add_one, hd]; rfl
    refine .inr ⟨hgo, fun H'' => i + 1 ≤ xs.length ∧ LSt B D H2 H'' ((xs.take (i + 1)).flatMap fun d => (inner d).filterMap (outs2 d)), fun H'' h => ⟨xs.length - (i + 1), by omega, rfl, h⟩, fun x H3 yl => ?_⟩
    obtain ⟨g3, hx⟩ := hy x H3 yl
    have g3p : Gr (B.plus [D]) H' H3 := g3.plus fun a ha => by rw [List.mem_singleton.mp ha, hDl]; exact fun z => by cases z
    have D3 : H3 D = some (.lst vs') := g3p.keep _ _ hDl fun ps z => by cases z
    intro C1 hC1 pins s u I r
    refine (hgg C1 hC1).run pins s (wipe σ (own.map (·.2))) H3 x u _ I r (kg d x (wipe σ (own.map (·.2))) H3 _ (LF.apart D3 hx (hfl d hmem)) (hsh d hmem) fun σ2 hput => ?_)
    obtain ⟨hwipe, hei⟩ := hin D hDH d hmem H3 σ2 (up (gr2.trans g3p)) hput
    refine ⟨hwipe, fun C2 hC2 pins2 s2 I2 => ?_⟩
    refine pts_nil.run pins2 s2 σ2 H3 _ I2 ?_
    simp only [if_true]
    intro C3 hC3 pins3 s3 I3
    obtain ⟨wi1, pi1, hwi1⟩ := hei C3 hC3
    refine pi1.run pins3 s3 σ2 H3 _ I3 (hwi1 H3 g3p.self _ fun J1 H5 g5 hw1 => ?_)
    have D5 : H5 D = some (.lst vs') := g5.keep _ _ D3 fun ps z => by cases z
    have gr5 := gr2.trans (g3p.trans g5)
    refine ⟨fun j k H6 => k = (inner d).length - j ∧ j ≤ (inner d).length ∧ LSt B D H2 H6 (((xs.take i).flatMap fun d => (inner d).filterMap (outs2 d)) ++ ((inner d).take j).filterMap (outs2 d)) ∧ Gx (B.plus [D]) H5 H6, ⟨_, rfl, Nat.zero_le _, ⟨vs', D5, by rw [List.take_zero, List.filterMap_nil, List.append_nil]; exact iss.mono (g3.trans g5.minus), gr5⟩, g5.self.x⟩, ?_⟩
    rintro j k H6 ⟨rfl, hj, ⟨vs6, D6, iss6, gr6⟩, gx6⟩
    cases hd1 : (inner d)[j]? with
    | none =>
      have e : j = (inner d).length := by
        have := List.getElem?_eq_none_iff.mp hd1
        omega
      refine .inl ⟨(hw1 H6 j gx6).2 e, hlt, vs6, D6, ?_, gr6⟩
      rw [e, List.take_length] at iss6
      rw [tk1, List.flatMap_append]
      simpa using iss6
    | some d1 =>
      have hlt1 : j < (inner d).length := (List.getElem?_eq_some_iff.mp hd1).1
      have hmem1 : d1 ∈ inner d := List.mem_of_getElem? hd1
      obtain ⟨hgo1, hy1⟩ := (hw1 H6 j gx6).1 d1 hd1
      have tk2 : (inner d).take (j + 1) = (inner d).take j ++ [d1] := by rw [List.take_add_one, hd1]; rfl
      refine .inr ⟨hgo1, fun H'' => j + 1 ≤ (inner d).length ∧ LSt B D H2 H'' (((xs.take i).flatMap fun d => (inner d).filterMap (outs2 d)) ++ ((inner d).take (j + 1)).filterMap (outs2 d)) ∧ Gx (B.plus [D]) H5 H'', fun H'' h => ⟨(inner d).length - (j + 1), by omega, rfl, h⟩, fun x1 H7 yl1 => ?_⟩
      obtain ⟨g7, hx1⟩ := hy1 x1 H7 yl1
      have gr7 := gr6.trans g7
      have gx7 : Gx (B.plus [D]) H3 H7 := g5.x.trans (gx6.gr g7)
      intro C4 hC4 pins4 s4 u4 I4 r4
      refine (hgg1 C4 hC4).run pins4 s4 (wipe σ2 vs1) H7 x1 u4 _ I4 r4 (kg1 d1 x1 (wipe σ2 vs1) H7 _ hx1 (hsh1 d hmem d1 hmem1) fun σ3 hput1 => ?_)
      obtain ⟨hwipe1, b, ht, h1, h0'⟩ := item D hDH d hmem d1 hmem1 H7 σ2 σ3 (up gr7) (hput.monoX gx7) hput1
      refine ⟨hwipe1, fun C5 hC5 => ht C5 hC5 H7 g7.self _ fun H8 g8 => ?_⟩
      have D8 : H8 D = some (.lst vs6) := g8.keep _ _ (g7.keep _ _ D6 fun ps z => by cases z) fun ps z => by cases z
      cases b with
      | false =>
        refine iteF ⟨hlt1, ⟨vs6, D8, ?_, gr7.trans g8⟩, (gx6.gr g7).gr g8⟩
        rw [tk2, List.filterMap_append]
        show Iss _ _ _ (_ ++ (_ ++ [d1].filterMap (outs2 d)))
        rw [List.filterMap_cons, h0' rfl, List.filterMap_nil, List.append_nil]
        exact iss6.mono (g7.trans g8).minus
      | true =>
        obtain ⟨d', ho, hev⟩ := h1 rfl
        refine iteT fun C6 hC6 => (hev C6 hC6).mono g8 H8 g8.self _ fun y H9 g9 hy9 => ?_
        have D9 : H9 D = some (.lst vs6) := g9.keep _ _ D8 fun ps z => by cases z
        have hl6 : vs6.length < sizeLine := by
          rw [iss6.1, List.length_append]
          have h1 := lenAll (xs.take i) fun d hd => List.mem_of_mem_take hd
          have h2 : (((inner d).take j).filterMap (outs2 d)).length ≤ 1000 := Nat.le_trans (List.length_filterMap_le _ _) (by rw [List.length_take]; have := hlen1 d hmem; omega)
          rw [List.length_take] at h1
          have h3 : (2000000 : Nat) < sizeLine := by decide
          have h4 : 1000 * min i xs.length ≤ 1000 * 1000 := Nat.mul_le_mul_left _ (by omega)
          omega
        refine ⟨vs6, D9, hl6, hlt1, ⟨vs6 ++ [y], upd_same, ?_, ?_⟩, ?_⟩
        · rw [tk2, List.filterMap_append]
          show Iss _ _ _ (_ ++ (_ ++ [d1].filterMap (outs2 d)))
          rw [List.filterMap_cons, ho, List.filterMap_nil, ← List.append_assoc]
          have iss9 := iss6.mono (g7.trans (g8.trans g9)).minus
          refine Iss.snoc ⟨iss9.1, fun n v dd e1 e2 => LF.is D9 (iss9.2 n v dd e1 e2) ?_⟩ (LF.is D9 hy9.minus (hlf d hmem d1 hmem1 d' ho))
          rcases List.mem_append.mp (List.mem_of_getElem? e2) with z | z
          · exact lfAll (xs.take i) (fun d hd => List.mem_of_mem_take hd) dd z
          · obtain ⟨d2, z1, z2⟩ := List.mem_filterMap.mp z
            exact hlf d hmem d2 (List.mem_of_mem_take z1) dd z2
        · have gr9 := gr7.trans (g8.trans g9)
          refine ⟨fun a o e n => ?_, gr9.tk.upd D9 (fun ps z => by cases z) (fun q z => by cases z), fun a z => ?_⟩
          · rw [upd_ne (fun z => by rw [z, hD] at e; cases e)]
            exact gr9.keep a o e n
          · by_cases c : a = D
            · rw [c]; exact hD
            · rw [upd_ne c] at z; exact gr9.dom a z
        · exact ((gx6.gr g7).gr (g8.trans g9)).trans (Gx.upd g9.tk D9 (List.mem_append_left _ (List.mem_singleton.mpr rfl)) (fun ps z => by cases z) fun q z => by cases z)
end
end K22
end
section
set_option Elab.async false
set_option linter.all false
set_option maxRecDepth 100000
set_option maxHeartbeats 4000000
/-! K22Most: pairs_of, most, most_cut, with_least, short_cut. -/
namespace K22
open PySem PySem.Spec PyProof.Rows L2 NdefX Pm
abbrev sPairs : Stmt := top 15
abbrev sMost : Stmt := top 16
abbrev sMostCut : Stmt := top 17
abbrev sLeast : Stmt := top 19
abbrev sShort : Stmt := top 20
theorem of_pg {C : Cx} {tg : Expr} {g : TG} {v : V} {σ : L2.St} {H : Hp} {Q : L2.St → Hp → Prop} (h : PG C tg g) (q : g v σ H Q) : tSG C tg v σ H Q := fun pins s u I r => h.run pins s σ H v u Q I r q
theorem enumD_range {α : Type} (e : α → PyData) (l : List α) (d : α) : enumD (l.map e) = (List.range l.length).map fun i : Nat => .tuple [.int (i : Int), e (l.getD i d)] := by
  refine List.ext_getElem? fun i => ?_
  unfold enumD
  rw [List.getElem?_map, List.getElem?_zipIdx, List.getElem?_map, List.getElem?_map]
  by_cases h : i < l.length
  · rw [List.getElem?_eq_getElem h, List.getElem?_range h]
    show some (PyData.tuple [.int ((0 + i : Nat) : Int), e l[i]]) = some (PyData.tuple [.int (i : Int), e (l.getD i d)])
    rw [List.getD_eq_getElem?_getD, List.getElem?_eq_getElem h, Nat.zero_add]
    rfl
  · rw [List.getElem?_eq_none (by omega), List.getElem?_eq_none (by rw [List.length_range]; omega)]
    rfl
theorem touch_pair {W : Wt} {b : Bool} {a : Nat} {r : Int} (ha : a < W.n) (hr : r ∈ W.row a) : touch (opsOf W b) (a : Int) ((W.n : Int) + r) = true := by
  unfold touch
  refine List.any_eq_true.mpr ⟨((a : Int), (W.n : Int) + r, (1 : Int)), ?_, by simp⟩
  unfold opsOf askAll
  refine List.mem_append_left _ (List.mem_append_left _ (List.mem_flatMap.mpr ⟨a, List.mem_range.mpr ha, ?_⟩))
  unfold askOps
  exact List.mem_cons_of_mem _ (List.mem_append_right _ (List.mem_map.mpr ⟨r, hr, rfl⟩))
theorem ops_len {W : Wt} (s : Small W) (b : Bool) : (opsOf W b).length ≤ 200 := by
  unfold opsOf
  rw [List.length_append, List.length_append]
  have h1 := askAll_len s b W.n
  have h2 := roomAll_len W b W.m
  have h3 : (lastOps W b).length ≤ 1 := by unfold lastOps; split <;> simp
  have h4 := s.n
  have h5 := s.m
  have h6 : W.n = W.lists.length := rfl
  have h7 : W.m = W.rooms.length := rfl
  omega
section
variable {P : Program} {w : World} {K : PySem.W.Frag} {mg : Str → Option Value} {base : Heap} {Cp Cw cBS fM fF fI fL fW : Addr} {fdM fdF fdI fdL fdW : FuncData}
/-! ### pairs_of -/
def spPairs (Cp Cw : Addr) : Sp := fun vs H Q _ => ∃ (B : Amb) (p pp r g : Addr) (m : Nat) (ops : List Op) (gf : Int → Int → Int) (W : Wt), vs = [.ref p, .ref pp] ∧ TK B H ∧ WantAt B.X Cw H p W ∧ PipeAt Cp H pp r g m ops gf ∧ Small W ∧ (∀ a, a < W.n → ∀ x ∈ W.row a, touch ops (a : Int) ((W.n : Int) + x) = true) ∧
  ∀ v H', Gr B H H' → Is B.X H' v (lotD (Pm.pairsOf W gf)) → Q v H'
theorem scPairs : FnScope ["wants", "pipes", "many", "asker", "row", "room"] ["wants", "pipes"] (defScope sPairs) := ⟨rfl, rfl, rfl, by decide +kernel, rfl, by decide +kernel, by decide +kernel⟩
/-- the pairs that go -/
def oPair (gf : Int → Int → Int) (n : Nat) : PyData → PyData → Option PyData
  | .tuple [.int a, _], .int r => if decide (0 < gf a ((n : Int) + r)) = true then some (pD (a, r)) else none
  | _, _ => none
def inRow : PyData → List PyData
  | .tuple [_, .tuple ds] => ds
  | _ => []
theorem pairs_data (W : Wt) (gf : Int → Int → Int) : ((enumD (W.lists.map rowD)).flatMap fun d => (inRow d).filterMap (oPair gf W.n d)) = (Pm.pairsOf W gf).map pD := by
  rw [enumD_range rowD W.lists [], List.flatMap_map]
  unfold Pm.pairsOf
  rw [List.map_flatMap]
  show (List.range W.n).flatMap _ = _
  congr 1
  funext a
  show (iD (W.row a)).filterMap (oPair gf W.n (.tuple [.int (a : Int), rowD (W.row a)])) = _
  rw [iD, fm_if (enc := PyData.int) (outs := oPair gf W.n (.tuple [.int (a : Int), rowD (W.row a)])) (f := fun r => pD ((a : Int), r)) (p := fun r => decide (0 < gf (a : Int) ((W.n : Int) + r))) (fun r => rfl), List.map_map]
  rfl
theorem ok_pairs {f : Addr} {fd : FuncData} (F : Fun K "pairs_of" "pairs_of" sPairs f fd) (X : All K mg Cp Cw cBS fM fF fI fL fW fdM fdF fdI fdL fdW) : FnOk P w K mg base CX0 2 f fd ["wants", "pipes"] (spPairs Cp Cw) := by
  refine F.ok scPairs (fun vs H Q E h => ?_) (fun cdv A outer s H vs Q E hr h => ?_)
  · obtain ⟨B, p, pp, r, g, m, ops, gf, W, rfl, _⟩ := h
    rfl
  · obtain ⟨B, p, pp, r, g, m, ops, gf, W, rfl, tk, WA, PA, sm_, ht, k⟩ := h
    have hu := hu_of hr
    refine ⟨_, pss_S, ?_⟩
    refine ss_cons (s_set 2 scPairs.nd (EV.go tk (EV.to (ev_len rfl X.Y.ln (ev_lists X.Y.T (ex_var 0) WA) sq_lists) (d' := .int (W.n : Int)) (by rw [List.length_map]; rfl)) fun v H1 g1 hv => ?_))
    rw [hv.int_eq]
    have WA1 := WA.mono g1
    have PA1 := PA.mono g1
    have hn8 : W.lists.length ≤ 8 := sm_.n
    refine ss_cons (s_ret (EV.go (B := B) (d := lotD (Pm.pairsOf W gf)) g1.tk (ev_tupleOf rfl X.Y.tp (EV.to (ev_lc2 (own := [("asker", 3), ("row", 4), ("room", 5)]) (vs1 := [5]) (pat := .two (.nm 3) (.nm 4)) (pat1 := .nm 5) (xs := enumD (W.lists.map rowD)) (inner := inRow) (outs2 := oPair gf W.n)
      (ei_enumL rfl X.en (ev_lists X.Y.T (ex_var 0) WA1)) (by rw [enumD_len, List.length_map]; omega) ?_ rfl scPairs.nd (blk_by (N := ["wants", "pipes", "many", "asker", "row", "room"]) (sc := defScope sPairs) (by decide +kernel)) (by decide)
      (fun B' => eg_bt rfl (eg_bn scPairs.nd) (eg_bn scPairs.nd)) (fun B' => eg_bn scPairs.nd) ?_ (fun _ _ _ _ => True.intro) ?_ ?_ ?_ ?_) (congrArg PyData.list (pairs_data W gf))) (.inl rfl)) fun v H2 g2 hv => k v H2 (g1.trans g2) hv))
    · intro d hd
      rw [enumD_range rowD W.lists []] at hd
      obtain ⟨i, _, rfl⟩ := List.mem_map.mp hd
      have := sm_.row i
      show (iD (W.row i)).length ≤ 1000
      rw [iD_len]
      omega
    · intro d hd
      rw [enumD_range rowD W.lists []] at hd
      obtain ⟨i, _, rfl⟩ := List.mem_map.mp hd
      exact ⟨_, _, rfl, True.intro, True.intro⟩
    · intro d hd
      rw [enumD_range rowD W.lists []] at hd
      obtain ⟨i, _, rfl⟩ := List.mem_map.mp hd
      exact lf_pair (.int _) (lf_iD _)
    · intro d hd d1 hd1 d' hd'
      rw [enumD_range rowD W.lists []] at hd
      obtain ⟨i, _, rfl⟩ := List.mem_map.mp hd
      obtain ⟨x, _, rfl⟩ := List.mem_map.mp hd1
      have hd' : (if decide (0 < gf (i : Int) ((W.n : Int) + x)) = true then some (pD ((i : Int), x)) else none) = some d' := hd'
      by_cases h : decide (0 < gf (i : Int) ((W.n : Int) + x)) = true
      · rw [if_pos h] at hd'; cases hd'; exact lf_pair (.int _) (.int _)
      · rw [if_neg h] at hd'; cases hd'
    · rintro D hD d hd H3 σ2 g3 ⟨d1, d2, σ3, ed, ⟨u1, rfl, hu1⟩, ⟨u2, rfl, hu2⟩⟩
      rw [enumD_range rowD W.lists []] at hd
      obtain ⟨i, _, rfl⟩ := List.mem_map.mp hd
      cases ed
      refine ⟨rfl, fun C' hC' => ?_⟩
      obtain ⟨s', H', c, cl, fp, rfl⟩ := hC'
      exact ei_tup (ev_var 4)
    · rintro D hD d hd d1 hd1 H3 σ2 σ3 g3 ⟨d1', d2, σ4, ed, ⟨u1, rfl, hu1⟩, ⟨u2, rfl, hu2⟩⟩ ⟨u3, rfl, hu3⟩
      rw [enumD_range rowD W.lists []] at hd
      obtain ⟨i, hi, rfl⟩ := List.mem_map.mp hd
      obtain ⟨x, hx, rfl⟩ := List.mem_map.mp hd1
      cases ed
      rw [hu1.int_eq, hu3.int_eq]
      have PA3 := PA1.mono g3
      obtain ⟨⟨dx3, e3⟩, d13, d23, _⟩ := id PA3
      obtain ⟨kg, eg, _, hqg⟩ := d23.ex
      have hval := hqg (i : Int) ((W.n : Int) + x)
      rw [if_pos (ht i (List.mem_range.mp hi) x hx)] at hval
      refine ⟨rfl, item_if (fun C' hC' => ?_) fun _ C' hC' => ?_⟩
      · obtain ⟨s', H', c, cl, fp, rfl⟩ := hC'
        exact et_cmp (co_gt (n := gf (i : Int) ((W.n : Int) + x)) (m := 0)) (ex_dget hu (ex_fld (ex_var 1) e3 X.X.T.cl X.X.T.nG (pfl_g _ _ _)) eg (ek (ex_var 3).int (ev_add (ex_var 2).int (ex_var 5).int)) hval).int ev_int
      · obtain ⟨s', H', c, cl, fp, rfl⟩ := hC'
        exact ev_tup (ea_cons (ex_var 3).int (ea_cons (ex_var 5).int ea_nil)) (by show 2 ≤ sizeLine; decide)
/-- what the four ask beyond that -/
structure Snd (K : PySem.W.Frag) (mg : Str → Option Value) (base : Heap) (Cp fS cS PS fR fLa cLa PLa fPa : Addr) (fdS fdR fdLa fdPa : FuncData) : Prop where
  FS : FunC K "send" "Pipes.send" sSend fS cS fdS
  TS : GxR.TabB base mg cS PS
  bS : Binds K fdS ["self", "start", "end"] []
  mS : Meth K Cp "send" fS
  FR : Fun K "reached" "Pipes.reached" sReach fR fdR
  bR : Binds K fdR ["self", "start"] []
  mR : Meth K Cp "reached" fR
  FLa : FunC K "laid" "laid" sLaid fLa cLa fdLa
  TL : GxR.TabB base mg cLa PLa
  bLa : Binds K fdLa ["wants", "least"] []
  gLa : mg "laid" = some (.ref fLa)
  FPa : Fun K "pairs_of" "pairs_of" sPairs fPa fdPa
  bPa : Binds K fdPa ["wants", "pipes"] []
  gPa : mg "pairs_of" = some (.ref fPa)
variable {fS cS PS fR fLa cLa PLa fPa : Addr} {fdS fdR fdLa fdPa : FuncData}
/-- pipes.send(a, b) -/
theorem t_send {B : Amb} {C : Cx} {k : Nat} {o a b : Expr} {σ : L2.St} {H : Hp} {apos pos : Pos} {p r g : Addr} {m : Nat} {ops : List Op} {s t : Int} {Q : VK} (hK : C.K = K) (hmg : C.mg = mg) (hbs : C.base = base) (X : All K mg Cp Cw cBS fM fF fI fL fW fdM fdF fdI fdL fdW) (Z : Snd K mg base Cp fS cS PS fR fLa cLa PLa fPa fdS fdR fdLa fdPa) (hr : Room (k + 4) C.A) (tk : TK B H) (hPS : PS ∈ B.TG) (PA : PipeAt Cp H p r g m ops (fun _ _ => 0)) (hm : m ≤ 900) (hs : s ∈ places m) (hst : s ≠ t) (hpos : ∀ o ∈ ops, 0 ≤ o.2.2) (hl : ops.length ≤ 400)
    (ho : EX B C o σ H (.ref p)) (ha : EV B C a σ H (.int s)) (hb : EV B C b σ H (.int t))
    (q : ∀ H' whole (gf : Int → Int → Int) (S : Int → Bool), Gw B [g] H H' → PipeAt Cp H' p r g m ops gf → Flow (places m) ops s t gf whole → S s = true → S t = false → Closed (places m) ops gf S → Q (.int whole) H')
    (h1 : starEach [a, b] C.env = (false, eval a C.env) :: starEach [b] C.env := by rfl) (h2 : starEach [b] C.env = (false, eval b C.env) :: starEach [] C.env := by rfl) (hpl : (backTo pos (starEach [b] C.env)).any (·.1) = false := by rfl) {pl : Sem Bool}
    (ht : eval (.Call (.Attribute o "send" apos) [a, b] [] pos) C.env = (do
      let ov ← eval o C.env
      standAt apos.atName
      let (f, first) ← holding [ov] (getMethod ov "send" pl)
      callWith pos f first (backTo pos (starEach [a, b] C.env)) (backToKw pos (keywordEach [] C.env))) := by rfl) : tS C (.Call (.Attribute o "send" apos) [a, b] [] pos) σ H Q := by
  subst hK hmg hbs
  refine of_pe (pe_meth pe_S X.X.T.cl Z.mS (ok_send Z.FS Z.TS X.X X.FW X.bW X.mW) (hr.mono (by omega)) Z.bS .nil pass0 (pa_cons pe_S (pa_cons pe_S pa_nil h2) h1) h1 hpl ht) ?_
  refine ho.go tk fun v H1 g1 ev => ?_
  subst ev
  obtain ⟨⟨dx, e1⟩, _⟩ := PA.mono g1
  refine ⟨p, dx, _, rfl, e1, pfl_no _ _ _ (by decide +kernel) (by decide +kernel) (by decide +kernel), ?_⟩
  refine ha H1 g1 _ fun v1 H2 g2 hv1 => ?_
  refine hb H2 (g1.trans g2) _ fun v2 H3 g3 hv2 => ?_
  rw [hv1.int_eq, hv2.int_eq]
  have gg := g1.trans (g2.trans g3)
  exact ⟨B, p, r, g, m, ops, s, t, rfl, gg.tk, hPS, PA.mono gg, hm, hs, hst, hpos, hl, fun H' whole gf S w4 PA4 FL h1 h2 hC => q H' whole gf S (gg.w.trans w4) PA4 FL h1 h2 hC⟩
/-- laid(wants, b) -/
theorem evp_laid {B : Amb} {C : Cx} {k : Nat} {a e : Expr} {σ : L2.St} {H : Hp} {p1 pos : Pos} {p : Addr} {W : Wt} {b : Bool} (hK : C.K = K) (hmg : C.mg = mg) (hbs : C.base = base) (X : All K mg Cp Cw cBS fM fF fI fL fW fdM fdF fdI fdL fdW) (Z : Snd K mg base Cp fS cS PS fR fLa cLa PLa fPa fdS fdR fdLa fdPa) (hr : Room (k + 3) C.A) (hg : Gl C "laid") (hPL : PLa ∈ B.TG) (WA : WantAt B.X Cw H p W) (ok : W.Ok) (sm_ : Small W) (ha : EX B C a σ H (.ref p)) (he : EX B C e σ H (.bl b))
    (h1 : starEach [a, e] C.env = (false, eval a C.env) :: starEach [e] C.env := by rfl) (h2 : starEach [e] C.env = (false, eval e C.env) :: starEach [] C.env := by rfl) (hpl : (backTo pos (starEach [e] C.env)).any (·.1) = false := by rfl) :
    EVP B C (.Call (.Name "laid" p1) [a, e] [] pos) σ H fun v H' => ∃ t pp r g, v = .ref t ∧ H g = none ∧ H r = none ∧ H' t = some (.tup [.ref pp, .int (kS W), .int (kE W), .int (must W b)]) ∧ PipeAt Cp H' pp r g (W.n + W.m + 4) (opsOf W b) (fun _ _ => 0) := by
  subst hK hmg hbs
  refine evp_call (ok_laid Z.FLa Z.TL X) (hr.mono (by omega)) Z.bLa pass0 hg Z.gLa Z.FLa.kp (eap_x ha (eap_x he eap_nil h2) h1) (fun H2 vs Q g2 hvs q => ?_) (by decide) h1 hpl
  obtain ⟨ws, rfl, ws2, rfl, rfl⟩ := hvs
  exact ⟨B, p, W, b, rfl, g2.tk, hPL, WA.mono g2, ok, sm_, fun H' t pp r g g3 hg0 hr0 et PA => q _ H' g3 ⟨t, pp, r, g, rfl, g2.dom _ hg0, g2.dom _ hr0, et, PA⟩⟩
theorem ev_pairs {B : Amb} {C : Cx} {k : Nat} {a e : Expr} {σ : L2.St} {H : Hp} {p1 pos : Pos} {p pp r g : Addr} {m : Nat} {W : Wt} {b : Bool} {gf : Int → Int → Int} (hK : C.K = K) (hmg : C.mg = mg) (hbs : C.base = base) (X : All K mg Cp Cw cBS fM fF fI fL fW fdM fdF fdI fdL fdW) (Z : Snd K mg base Cp fS cS PS fR fLa cLa PLa fPa fdS fdR fdLa fdPa) (hr : Room (k + 2) C.A) (hg : Gl C "pairs_of") (WA : WantAt B.X Cw H p W) (PA : PipeAt Cp H pp r g m (opsOf W b) gf) (sm_ : Small W) (ha : EX B C a σ H (.ref p)) (he : EX B C e σ H (.ref pp))
    (h1 : starEach [a, e] C.env = (false, eval a C.env) :: starEach [e] C.env := by rfl) (h2 : starEach [e] C.env = (false, eval e C.env) :: starEach [] C.env := by rfl) (hpl : (backTo pos (starEach [e] C.env)).any (·.1) = false := by rfl) :
    EV B C (.Call (.Name "pairs_of" p1) [a, e] [] pos) σ H (lotD (Pm.pairsOf W gf)) := by
  subst hK hmg hbs
  refine evp_call (ok_pairs Z.FPa X) (hr.mono (by omega)) Z.bPa pass0 hg Z.gPa Z.FPa.kp (eap_x ha (eap_x he eap_nil h2) h1) (fun H2 vs Q g2 hvs q => ?_) (by decide) h1 hpl
  obtain ⟨ws, rfl, ws2, rfl, rfl⟩ := hvs
  exact ⟨B, p, pp, r, g, m, _, gf, W, rfl, g2.tk, WA.mono g2, PA.mono g2, sm_, fun a ha x hx => touch_pair ha hx, fun v H' g3 hv => q v H' g3 hv⟩
theorem ev_reach {B : Amb} {C : Cx} {k : Nat} {o e : Expr} {σ : L2.St} {H : Hp} {apos pos : Pos} {p r g : Addr} {m : Nat} {ops : List Op} {gf : Int → Int → Int} {s : Int} (hK : C.K = K) (hmg : C.mg = mg) (hbs : C.base = base) (X : All K mg Cp Cw cBS fM fF fI fL fW fdM fdF fdI fdL fdW) (Z : Snd K mg base Cp fS cS PS fR fLa cLa PLa fPa fdS fdR fdLa fdPa) (hr : Room (k + 3) C.A) (PA : PipeAt Cp H p r g m ops gf) (hm : m ≤ 60) (hs : s ∈ places m) (ho : EX B C o σ H (.ref p)) (he : EV B C e σ H (.int s))
    (hst : starEach [e] C.env = (false, eval e C.env) :: starEach [] C.env := by rfl) (hpl : (backTo pos (starEach [] C.env)).any (·.1) = false := by rfl) {pl : Sem Bool}
    (ht : eval (.Call (.Attribute o "reached" apos) [e] [] pos) C.env = (do
      let ov ← eval o C.env
      standAt apos.atName
      let (f, first) ← holding [ov] (getMethod ov "reached" pl)
      callWith pos f first (backTo pos (starEach [e] C.env)) (backToKw pos (keywordEach [] C.env))) := by rfl) :
    EVP B C (.Call (.Attribute o "reached" apos) [e] [] pos) σ H fun v H' => ∃ S : Int → Bool, S s = true ∧ Closed (places m) ops gf S ∧ (∀ S0 : Int → Bool, S0 s = true → Closed (places m) ops gf S0 → ∀ x, S x = true → S0 x = true) ∧ Is B.X H' v (.tuple (iD ((places m).filter S))) := by
  subst hK hmg hbs
  obtain ⟨⟨dx, e1⟩, _⟩ := id PA
  refine evp_meth (ok_reach Z.FR X.X) (hr.mono (by omega)) Z.bR pass0 X.X.T.cl Z.mR ho e1 (pfl_no _ _ _ (by decide +kernel) (by decide +kernel) (by decide +kernel)) (eap_d he eap_nil hst) (fun H2 vs Q g2 hvs q => ?_) hst hpl ht
  obtain ⟨v, ws, rfl, hv, rfl⟩ := hvs
  rw [hv.int_eq]
  exact ⟨B, p, r, g, m, ops, gf, s, rfl, g2.tk, PA.mono g2, hm, hs, fun v H' S g3 h1 h2 h3 h4 => q v H' g3 ⟨S, h1, h2, h3, h4⟩⟩
/-- a, b, c, d = a tuple of four -/
theorem four {C : Cx} {D : Ends} {i1 i2 i3 i4 : Nat} {x1 x2 x3 x4 : Str} {p1 p2 p3 p4 tp : Pos} {kk : Nat} {t : Addr} {v1 v2 v3 v4 : V} {σ : L2.St} {H : Hp} (hc : C.calm = true) (nd : C.N.Nodup) (h1 : C.N[i1]? = some x1) (h2 : C.N[i2]? = some x2) (h3 : C.N[i3]? = some x3) (h4 : C.N[i4]? = some x4) (l1 : C.env.scope.names.lookup x1 = some .local) (l2 : C.env.scope.names.lookup x2 = some .local) (l3 : C.env.scope.names.lookup x3 = some .local) (l4 : C.env.scope.names.lookup x4 = some .local) (e : H t = some (.tup [v1, v2, v3, v4]))
    (q : D.nx ((((σ.set i1 (some v1)).set i2 (some v2)).set i3 (some v3)).set i4 (some v4)) H) : tSG C (.Tuple [.Name x1 p1, .Name x2 p2, .Name x3 p3, .Name x4 p4] kk tp) (.ref t) σ H fun σ' H' => D.nx σ' H' :=
  of_pg (pg_tup hc (pgs_cons (pg_name nd h1 (.inl l1) (.inr l1)) (pgs_cons (pg_name nd h2 (.inl l2) (.inr l2)) (pgs_cons (pg_name nd h3 (.inl l3) (.inr l3)) (pgs_cons (pg_name nd h4 (.inl l4) (.inr l4)) pgs_nil))))) ⟨t, _, rfl, .inl (.inl e), rfl, _, _, rfl, _, _, rfl, _, _, rfl, _, _, rfl, rfl, q⟩
theorem kS_in (W : Wt) : kS W ∈ places (W.n + W.m + 4) := start_V
theorem low_in (W : Wt) : kE W + 1 ∈ places (W.n + W.m + 4) := low_V
/-! ### most -/
def spMost (Cw PS PLa : Addr) : Sp := fun vs H Q _ => ∃ (B : Amb) (p : Addr) (W : Wt), vs = [.ref p] ∧ TK B H ∧ PS ∈ B.TG ∧ PLa ∈ B.TG ∧ WantAt B.X Cw H p W ∧ W.Ok ∧ Small W ∧
  ∀ v H' Pp, Gr B H H' → MostR W Pp → Is B.X H' v (lotD Pp) → Q v H'
theorem scMost : FnScope ["wants", "pipes", "start", "end", "must"] ["wants"] (defScope sMost) := ⟨rfl, rfl, rfl, by decide +kernel, rfl, by decide +kernel, by decide +kernel⟩
theorem ok_most {f : Addr} {fd : FuncData} (F : Fun K "most" "most" sMost f fd) (X : All K mg Cp Cw cBS fM fF fI fL fW fdM fdF fdI fdL fdW) (Z : Snd K mg base Cp fS cS PS fR fLa cLa PLa fPa fdS fdR fdLa fdPa) : FnOk P w K mg base CX0 5 f fd ["wants"] (spMost Cw PS PLa) := by
  refine F.ok scMost (fun vs H Q E h => ?_) (fun cdv A outer s H vs Q E hr h => ?_)
  · obtain ⟨B, p, W, rfl, _⟩ := h
    rfl
  · obtain ⟨B, p, W, rfl, tk, hPS, hPL, WA, ok, sm_, k⟩ := h
    refine ⟨_, pss_S, ?_⟩
    -- pipes, start, end, must = laid(wants, False)
    refine ss_cons (s_asg (EVP.go tk (evp_laid rfl rfl rfl X Z (k := 1) hr rfl hPL WA ok sm_ (ex_var 0) (ex_of (fun _ _ _ h => h.bl_eq) ev_bl)) fun v H1 g1 hv => ?_))
    obtain ⟨t, pp, r, g, rfl, hg0, hr0, et, PA⟩ := hv
    refine four (i1 := 1) (i2 := 2) (i3 := 3) (i4 := 4) rfl scMost.nd rfl rfl rfl rfl rfl rfl rfl rfl et ?_
    have h1 := sm_.n
    have h2 := sm_.m
    have e1 : W.n = W.lists.length := rfl
    have e2 : W.m = W.rooms.length := rfl
    have hol := ops_len sm_ false
    -- pipes.send(start, end)
    refine ss_cons (s_expr (t_send rfl rfl rfl X Z (k := 0) hr g1.tk hPS PA (by omega) (kS_in W) (t := kE W) (by unfold kS kE; omega) (ops_pos ok) (by omega) (ex_var 1) (ex_var 2).int (ex_var 3).int fun H2 whole gf S w2 PA2 FL hS1 hS2 hC => ?_))
    have g2 : Gr B H H2 := w2.gr g1 fun c hc => by rw [List.mem_singleton.mp hc]; exact hg0
    -- return pairs_of(wants, pipes)
    refine ss_cons (s_ret (EV.go (B := B) g2.tk (ev_pairs rfl rfl rfl X Z (k := 2) hr rfl (WA.mono g2) PA2 sm_ (ex_var 0) (ex_var 1)) fun v H3 g3 hv => ?_))
    exact k v H3 _ (g2.trans g3) ⟨gf, whole, S, ⟨FL, hS1, hS2, hC⟩, rfl⟩ hv
end
end K22
end
section
set_option Elab.async false
set_option linter.all false
set_option maxRecDepth 100000
set_option maxHeartbeats 4000000
/-! K22Cut: most_cut, with_least, short_cut. -/
namespace K22
open PySem PySem.Spec PyProof.Rows L2 NdefX Pm
/-- x, y = (a, b), of cells -/
theorem s_two {B : Amb} {C : Cx} {D : Ends} {i j : Nat} {x y : Str} {a b : Expr} {px py tp pt pos : Pos} {kk k2 : Nat} {σ : L2.St} {H : Hp} {P R : V → Hp → Prop} (tk : TK B H) (hc : C.calm = true) (nd : C.N.Nodup) (hi : C.N[i]? = some x) (hj : C.N[j]? = some y)
    (lx : Loc C.env.scope x) (ly : Loc C.env.scope y) (fx : C.fn x = true ∨ C.env.scope.names.lookup x = some .local) (fy : C.fn y = true ∨ C.env.scope.names.lookup y = some .local)
    (ha : EVP B C a σ H P) (hP : ∀ v H1 H2, Gr B H1 H2 → P v H1 → P v H2) (hb : EVP B C b σ H R) (hR : ∀ v H1 H2, Gr B H1 H2 → R v H1 → R v H2)
    (q : ∀ v w H', Gr B H H' → P v H' → R w H' → D.nx ((σ.set i (some v)).set j (some w)) H')
    (hs1 : starEach [a, b] C.env = (false, eval a C.env) :: starEach [b] C.env := by rfl) (hs2 : starEach [b] C.env = (false, eval b C.env) :: starEach [] C.env := by rfl)
    (hs : swapsWithSole [.Tuple [.Name x px, .Name y py] kk tp] (.Tuple [a, b] k2 pt) pos.line C.env = pure false := by rfl) (hw : swappedStores [.Tuple [.Name x px, .Name y py] kk tp] (.Tuple [a, b] k2 pt) C.env = pure none := by rfl) :
    sS C (.Assign [.Tuple [.Name x px, .Name y py] kk tp] (.Tuple [a, b] k2 pt) pos) D σ H := by
  refine s_asg (of_pe (pe_tup (pa_cons pe_S (pa_cons pe_S pa_nil hs2) hs1)) (ha H (.refl tk) _ fun v H1 g1 hv => hb H1 g1 _ fun w H2 g2 hw => ⟨(by show 2 ≤ sizeLine; decide), fun t ht => ?_⟩)) hs hw
  have g3 := Gr.new (o := .tup [v, w]) g2.tk ht
  refine of_pg (pg_tup hc (pgs_cons (pg_name nd hi lx fx) (pgs_cons (pg_name nd hj ly fy) pgs_nil))) ⟨t, _, rfl, .inl (.inl upd_same), rfl, _, _, rfl, _, _, rfl, rfl, ?_⟩
  exact q v w _ (g1.trans (g2.trans g3)) (hP _ _ _ (g2.trans g3) hv) (hR _ _ _ g3 hw)
theorem sideA_V (W : Wt) (S : Int → Bool) : (places W.n).filter (fun a => decide (a ∈ (places (W.n + W.m + 4)).filter S)) = sideA W S := by
  unfold sideA
  refine List.filter_congr fun a ha => ?_
  have := mem_places.mp ha
  rw [Bool.eq_iff_iff, decide_eq_true_iff, List.mem_filter]
  exact ⟨fun h => h.2, fun h => ⟨mem_places.mpr (by omega), h⟩⟩
theorem sideR_V (W : Wt) (S : Int → Bool) : (places W.m).filter (fun r => decide ((W.n : Int) + r ∈ (places (W.n + W.m + 4)).filter S)) = sideR W S := by
  unfold sideR
  refine List.filter_congr fun a ha => ?_
  have := mem_places.mp ha
  rw [Bool.eq_iff_iff, decide_eq_true_iff, List.mem_filter]
  exact ⟨fun h => h.2, fun h => ⟨mem_places.mpr (by omega), h⟩⟩
theorem Sminus {W : Wt} {S S0 : Int → Bool} {t : Int} (h : ∀ x, S x = true → S0 x = true) (h0 : S0 t = false) : S t = false := by
  cases e : S t with
  | false => rfl
  | true => rw [h t e] at h0; cases h0
def cutD (A R : List Int) : PyData := .tuple [rowD A, rowD R]
section
variable {P : Program} {w : World} {K : PySem.W.Frag} {mg : Str → Option Value} {base : Heap} {Cp Cw cBS fM fF fI fL fW : Addr} {fdM fdF fdI fdL fdW : FuncData}
variable {fS cS PS fR fLa cLa PLa fPa : Addr} {fdS fdR fdLa fdPa : FuncData}
/-! ### most_cut -/
def spMostCut (Cw PS PLa : Addr) : Sp := fun vs H Q _ => ∃ (B : Amb) (p : Addr) (W : Wt), vs = [.ref p] ∧ TK B H ∧ PS ∈ B.TG ∧ PLa ∈ B.TG ∧ WantAt B.X Cw H p W ∧ W.Ok ∧ Small W ∧
  ∀ v H' A R, Gr B H H' → CutR W A R → Is B.X H' v (cutD A R) → Q v H'
abbrev nCut : List Str := ["wants", "pipes", "start", "end", "must", "inside", "many", "askers", "asker", "room"]
theorem scMostCut : FnScope nCut ["wants"] (defScope sMostCut) := ⟨rfl, rfl, rfl, by decide +kernel, rfl, by decide +kernel, by decide +kernel⟩
theorem ok_most_cut {f : Addr} {fd : FuncData} (F : Fun K "most_cut" "most_cut" sMostCut f fd) (X : All K mg Cp Cw cBS fM fF fI fL fW fdM fdF fdI fdL fdW) (Z : Snd K mg base Cp fS cS PS fR fLa cLa PLa fPa fdS fdR fdLa fdPa) : FnOk P w K mg base CX0 5 f fd ["wants"] (spMostCut Cw PS PLa) := by
  refine F.ok scMostCut (fun vs H Q E h => ?_) (fun cdv A outer s H vs Q E hr h => ?_)
  · obtain ⟨B, p, W, rfl, _⟩ := h
    rfl
  · obtain ⟨B, p, W, rfl, tk, hPS, hPL, WA, ok, sm_, k⟩ := h
    have hu := hu_of hr
    refine ⟨_, pss_S, ?_⟩
    -- pipes, start, end, must = laid(wants, False)
    refine ss_cons (s_asg (EVP.go tk (evp_laid rfl rfl rfl X Z (k := 1) hr rfl hPL WA ok sm_ (ex_var 0) (ex_of (fun _ _ _ h => h.bl_eq) ev_bl)) fun v H1 g1 hv => ?_))
    obtain ⟨t, pp, r, g, rfl, hg0, hr0, et, PA⟩ := hv
    refine four (i1 := 1) (i2 := 2) (i3 := 3) (i4 := 4) rfl scMostCut.nd rfl rfl rfl rfl rfl rfl rfl rfl et ?_
    have h1 := sm_.n
    have h2 := sm_.m
    have e1 : W.n = W.lists.length := rfl
    have e2 : W.m = W.rooms.length := rfl
    have hol := ops_len sm_ false
    -- pipes.send(start, end)
    refine ss_cons (s_expr (t_send rfl rfl rfl X Z (k := 0) hr g1.tk hPS PA (by omega) (kS_in W) (t := kE W) (by unfold kS kE; omega) (ops_pos ok) (by omega) (ex_var 1) (ex_var 2).int (ex_var 3).int fun H2 whole gf S w2 PA2 FL hS1 hS2 hC => ?_))
    have g2 : Gr B H H2 := w2.gr g1 fun c hc => by rw [List.mem_singleton.mp hc]; exact hg0
    have WA2 := WA.mono g2
    -- inside, many = (pipes.reached(start), len(wants.lists))
    refine ss_cons (s_two (i := 5) (j := 6) g2.tk rfl scMostCut.nd rfl rfl (.inr rfl) (.inr rfl) (.inl rfl) (.inl rfl) (ev_reach rfl rfl rfl X Z (k := 1) hr PA2 (by omega) (kS_in W) (ex_var 1) (ex_var 2).int) (fun v H1 H2 g ⟨S, z1, z2, z3, z4⟩ => ⟨S, z1, z2, z3, z4.mono g⟩)
      (EV.to (ev_len rfl X.Y.ln (ev_lists X.Y.T (ex_var 0) WA2) sq_lists) (d' := .int (W.n : Int)) (by rw [List.length_map]; rfl)) (fun v H1 H2 g z => z.mono g) fun v u H3 g3 ⟨S1, z1, z2, z3, hv⟩ hu' => ?_)
    rw [hu'.int_eq]
    have F1 : Full W false (kS W) (kE W) gf whole S1 := ⟨FL, z1, Sminus (W := W) (z3 S hS1 hC) hS2, z2⟩
    have WA3 := WA2.mono g3
    -- askers = tuple([..])
    refine ss_cons (s_set 7 scMostCut.nd (EV.go g3.tk (ev_tupleOf rfl X.Y.tp (EV.to (ev_lc (own := [("asker", 8)]) (pat := .nm 8) (xs := rangeD W.n) (outs := oI fun i => decide (i ∈ (places (W.n + W.m + 4)).filter S1))
      (ei_range rfl X.X.rg (ex_var 6).int (by omega)) (by rw [rangeD_places]; unfold iD places; rw [List.length_map, List.length_map, List.length_range]; omega) rfl scMostCut.nd (blk_by (N := nCut) (sc := defScope sMostCut) (by decide +kernel))
      (eg_bn scMostCut.nd) (fun d hd => True.intro) ?_ ?_) (congrArg PyData.list (by rw [rangeD_places, filterMap_ints, sideA_V]))) (.inl rfl)) fun v4 H4 g4 hv4 => ?_))
    · intro d hd d' hd'
      rw [rangeD_places] at hd
      obtain ⟨i, _, rfl⟩ := List.mem_map.mp hd
      exact oI_lf hd'
    · intro d hd H5 σ2 g5 hput
      rw [rangeD_places] at hd
      obtain ⟨i, _, rfl⟩ := List.mem_map.mp hd
      obtain ⟨u5, rfl, hu5⟩ := hput
      rw [hu5.int_eq]
      have hv5 := hv.mono g5
      refine ⟨rfl, item_if (fun C' hC' => ?_) fun hb C' hC' => ?_⟩
      · obtain ⟨s', H', c, cl, fp, rfl⟩ := hC'
        exact et_cmp (co_inI (.inr rfl)) (ex_var 8).int (ev_var 5 (hd := hv5))
      · obtain ⟨s', H', c, cl, fp, rfl⟩ := hC'
        exact (ex_var 8).int
    -- return (askers, tuple([..]))
    have hv4' := hv.mono g4
    refine ss_cons (s_ret (EV.go (B := B) (d := cutD (sideA W S1) (sideR W S1)) g4.tk (ev_tup (ea_cons (ev_var 7 (hd := hv4)) (ea_cons (ev_tupleOf rfl X.Y.tp (EV.to (ev_lc (own := [("room", 9)]) (pat := .nm 9) (xs := rangeD W.m) (outs := oI fun i => decide ((W.n : Int) + i ∈ (places (W.n + W.m + 4)).filter S1))
      (ei_range rfl X.X.rg (EV.to (ev_len rfl X.Y.ln (ev_rooms X.Y.T (ex_var 0) (WA3.mono g4)) sq_bnd) (d' := .int (W.m : Int)) (by rw [List.length_map]; rfl)) (by omega)) (by rw [rangeD_places]; unfold iD places; rw [List.length_map, List.length_map, List.length_range]; omega) rfl scMostCut.nd (blk_by (N := nCut) (sc := defScope sMostCut) (by decide +kernel))
      (eg_bn scMostCut.nd) (fun d hd => True.intro) ?_ ?_) (congrArg PyData.list (by rw [rangeD_places, filterMap_ints, sideR_V]))) (.inl rfl)) ea_nil)) (by show 2 ≤ sizeLine; decide)) fun v6 H6 g6 hv6 => k v6 H6 _ _ (g2.trans (g3.trans (g4.trans g6))) ⟨gf, whole, S1, F1, rfl, rfl⟩ hv6))
    · intro d hd d' hd'
      rw [rangeD_places] at hd
      obtain ⟨i, _, rfl⟩ := List.mem_map.mp hd
      exact oI_lf hd'
    · intro d hd H5 σ2 g5 hput
      rw [rangeD_places] at hd
      obtain ⟨i, _, rfl⟩ := List.mem_map.mp hd
      obtain ⟨u5, rfl, hu5⟩ := hput
      rw [hu5.int_eq]
      have hv5 := hv4'.mono g5
      refine ⟨rfl, item_if (fun C' hC' => ?_) fun hb C' hC' => ?_⟩
      · obtain ⟨s', H', c, cl, fp, rfl⟩ := hC'
        exact et_cmp (co_inI (.inr rfl)) (ev_add (ex_var 6).int (ex_var 9).int) (ev_var 5 (hd := hv5))
      · obtain ⟨s', H', c, cl, fp, rfl⟩ := hC'
        exact (ex_var 9).int
/-! ### with_least -/
def leastD : Option Lot → PyData
  | none => .none
  | some l => lotD l
def spLeast (Cw PS PLa : Addr) : Sp := fun vs H Q _ => ∃ (B : Amb) (p : Addr) (W : Wt), vs = [.ref p] ∧ TK B H ∧ PS ∈ B.TG ∧ PLa ∈ B.TG ∧ WantAt B.X Cw H p W ∧ W.Ok ∧ Small W ∧
  ∀ v H' o, Gr B H H' → LeastR W o → Is B.X H' v (leastD o) → Q v H'
theorem scLeast : FnScope ["wants", "pipes", "start", "end", "must"] ["wants"] (defScope sLeast) := ⟨rfl, rfl, rfl, by decide +kernel, rfl, by decide +kernel, by decide +kernel⟩
theorem ok_least {f : Addr} {fd : FuncData} (F : Fun K "with_least" "with_least" sLeast f fd) (X : All K mg Cp Cw cBS fM fF fI fL fW fdM fdF fdI fdL fdW) (Z : Snd K mg base Cp fS cS PS fR fLa cLa PLa fPa fdS fdR fdLa fdPa) : FnOk P w K mg base CX0 5 f fd ["wants"] (spLeast Cw PS PLa) := by
  refine F.ok scLeast (fun vs H Q E h => ?_) (fun cdv A outer s H vs Q E hr h => ?_)
  · obtain ⟨B, p, W, rfl, _⟩ := h
    rfl
  · obtain ⟨B, p, W, rfl, tk, hPS, hPL, WA, ok, sm_, k⟩ := h
    refine ⟨_, pss_S, ?_⟩
    -- pipes, start, end, must = laid(wants, True)
    refine ss_cons (s_asg (EVP.go tk (evp_laid rfl rfl rfl X Z (k := 1) hr rfl hPL WA ok sm_ (ex_var 0) (ex_of (fun _ _ _ h => h.bl_eq) ev_bl)) fun v H1 g1 hv => ?_))
    obtain ⟨t, pp, r, g, rfl, hg0, hr0, et, PA⟩ := hv
    refine four (i1 := 1) (i2 := 2) (i3 := 3) (i4 := 4) rfl scLeast.nd rfl rfl rfl rfl rfl rfl rfl rfl et ?_
    have h1 := sm_.n
    have h2 := sm_.m
    have e1 : W.n = W.lists.length := rfl
    have e2 : W.m = W.rooms.length := rfl
    have hol := ops_len sm_ true
    -- if pipes.send(end + 1, end + 2) < must:
    refine ss_cons (s_if (of_pt (pt_cmpR op_lt pe_S pe_S rfl) (t_send rfl rfl rfl X Z (k := 0) hr g1.tk hPS PA (by omega) (low_in W) (t := kE W + 2) (by omega) (ops_pos ok) (by omega) (ex_var 1) (ev_add (ex_var 3).int ev_int) (ev_add (ex_var 3).int ev_int) fun H2 whole gf S w2 PA2 FL hS1 hS2 hC => ?_)))
    have g2 : Gr B H H2 := w2.gr g1 fun c hc => by rw [List.mem_singleton.mp hc]; exact hg0
    have F1 : Full W true (kE W + 1) (kE W + 2) gf whole S := ⟨FL, hS1, hS2, hC⟩
    refine (ex_var (B := B) 4) H2 g2.self _ fun u H3 g3 hu => ?_
    subst hu
    have g23 := g2.trans g3
    refine ⟨whole, must W true, rfl, rfl, _, rfl, fun ht => ?_, fun hf => ?_⟩
    · have ht := of_decide_eq_true ht
      exact ss_cons (s_ret (EV.go (B := B) g3.tk ev_non fun v H4 g4 hv => k v H4 none (g23.trans g4) ⟨gf, whole, S, F1, (if_pos ht).symm⟩ hv))
    · have hf : ¬ whole < must W true := of_decide_eq_false hf
      refine ss_nil ?_
      exact ss_cons (s_ret (EV.go (B := B) g3.tk (ev_pairs rfl rfl rfl X Z (k := 2) hr rfl (WA.mono g23) (PA2.mono g3) sm_ (ex_var 0) (ex_var 1)) fun v H4 g4 hv => k v H4 (some (Pm.pairsOf W gf)) (g23.trans g4) ⟨gf, whole, S, F1, (if_neg hf).symm⟩ hv))
/-! ### short_cut -/
def shortD : Option (List Int × List Int) → PyData
  | none => .none
  | some (A, R) => cutD A R
def spShort (Cw PS PLa : Addr) : Sp := fun vs H Q _ => ∃ (B : Amb) (p : Addr) (W : Wt), vs = [.ref p] ∧ TK B H ∧ PS ∈ B.TG ∧ PLa ∈ B.TG ∧ WantAt B.X Cw H p W ∧ W.Ok ∧ Small W ∧
  ∀ v H' o, Gr B H H' → ShortR W o → Is B.X H' v (shortD o) → Q v H'
theorem scShort : FnScope nCut ["wants"] (defScope sShort) := ⟨rfl, rfl, rfl, by decide +kernel, rfl, by decide +kernel, by decide +kernel⟩
theorem ok_short {f : Addr} {fd : FuncData} (F : Fun K "short_cut" "short_cut" sShort f fd) (X : All K mg Cp Cw cBS fM fF fI fL fW fdM fdF fdI fdL fdW) (Z : Snd K mg base Cp fS cS PS fR fLa cLa PLa fPa fdS fdR fdLa fdPa) : FnOk P w K mg base CX0 5 f fd ["wants"] (spShort Cw PS PLa) := by
  refine F.ok scShort (fun vs H Q E h => ?_) (fun cdv A outer s H vs Q E hr h => ?_)
  · obtain ⟨B, p, W, rfl, _⟩ := h
    rfl
  · obtain ⟨B, p, W, rfl, tk, hPS, hPL, WA, ok, sm_, k⟩ := h
    have hu := hu_of hr
    refine ⟨_, pss_S, ?_⟩
    -- pipes, start, end, must = laid(wants, True)
    refine ss_cons (s_asg (EVP.go tk (evp_laid rfl rfl rfl X Z (k := 1) hr rfl hPL WA ok sm_ (ex_var 0) (ex_of (fun _ _ _ h => h.bl_eq) ev_bl)) fun v H1 g1 hv => ?_))
    obtain ⟨t, pp, r, g, rfl, hg0, hr0, et, PA⟩ := hv
    refine four (i1 := 1) (i2 := 2) (i3 := 3) (i4 := 4) rfl scShort.nd rfl rfl rfl rfl rfl rfl rfl rfl et ?_
    have h1 := sm_.n
    have h2 := sm_.m
    have e1 : W.n = W.lists.length := rfl
    have e2 : W.m = W.rooms.length := rfl
    have hol := ops_len sm_ true
    -- if pipes.send(end + 1, end + 2) >= must:
    refine ss_cons (s_if (of_pt (pt_cmpR op_ge pe_S pe_S rfl) (t_send rfl rfl rfl X Z (k := 0) hr g1.tk hPS PA (by omega) (low_in W) (t := kE W + 2) (by omega) (ops_pos ok) (by omega) (ex_var 1) (ev_add (ex_var 3).int ev_int) (ev_add (ex_var 3).int ev_int) fun H02 whole gf S w2 PA02 FL hS1 hS2 hC => ?_)))
    have g02 : Gr B H H02 := w2.gr g1 fun c hc => by rw [List.mem_singleton.mp hc]; exact hg0
    have F0 : Full W true (kE W + 1) (kE W + 2) gf whole S := ⟨FL, hS1, hS2, hC⟩
    refine (ex_var (B := B) 4) H02 g02.self _ fun u0 H2 g03 hu0 => ?_
    subst hu0
    have g2 := g02.trans g03
    refine ⟨whole, must W true, rfl, rfl, _, rfl, fun ht => ?_, fun hf => ?_⟩
    · have ht := of_decide_eq_true ht
      exact ss_cons (s_ret (EV.go (B := B) g2.tk ev_non fun v H4 g4 hv => k v H4 none (g2.trans g4) ⟨gf, whole, S, F0, (if_pos ht).symm⟩ hv))
    have hf : ¬ must W true ≤ whole := of_decide_eq_false hf
    refine ss_nil ?_
    have PA2 := PA02.mono g03
    have WA2 := WA.mono g2
    -- inside, many = (pipes.reached(start), len(wants.lists))
    refine ss_cons (s_two (i := 5) (j := 6) g2.tk rfl scShort.nd rfl rfl (.inr rfl) (.inr rfl) (.inl rfl) (.inl rfl) (ev_reach rfl rfl rfl X Z (k := 1) hr PA2 (by omega) (low_in W) (ex_var 1) (ev_add (ex_var 3).int ev_int)) (fun v H1 H2 g ⟨S, z1, z2, z3, z4⟩ => ⟨S, z1, z2, z3, z4.mono g⟩)
      (EV.to (ev_len rfl X.Y.ln (ev_lists X.Y.T (ex_var 0) WA2) sq_lists) (d' := .int (W.n : Int)) (by rw [List.length_map]; rfl)) (fun v H1 H2 g z => z.mono g) fun v u H3 g3 ⟨S1, z1, z2, z3, hv⟩ hu' => ?_)
    rw [hu'.int_eq]
    have F1 : Full W true (kE W + 1) (kE W + 2) gf whole S1 := ⟨FL, z1, Sminus (W := W) (z3 S hS1 hC) hS2, z2⟩
    have WA3 := WA2.mono g3
    -- askers = tuple([..])
    refine ss_cons (s_set 7 scShort.nd (EV.go g3.tk (ev_tupleOf rfl X.Y.tp (EV.to (ev_lc (own := [("asker", 8)]) (pat := .nm 8) (xs := rangeD W.n) (outs := oI fun i => decide (i ∈ (places (W.n + W.m + 4)).filter S1))
      (ei_range rfl X.X.rg (ex_var 6).int (by omega)) (by rw [rangeD_places]; unfold iD places; rw [List.length_map, List.length_map, List.length_range]; omega) rfl scShort.nd (blk_by (N := nCut) (sc := defScope sShort) (by decide +kernel))
      (eg_bn scShort.nd) (fun d hd => True.intro) ?_ ?_) (congrArg PyData.list (by rw [rangeD_places, filterMap_ints, sideA_V]))) (.inl rfl)) fun v4 H4 g4 hv4 => ?_))
    · intro d hd d' hd'
      rw [rangeD_places] at hd
      obtain ⟨i, _, rfl⟩ := List.mem_map.mp hd
      exact oI_lf hd'
    · intro d hd H5 σ2 g5 hput
      rw [rangeD_places] at hd
      obtain ⟨i, _, rfl⟩ := List.mem_map.mp hd
      obtain ⟨u5, rfl, hu5⟩ := hput
      rw [hu5.int_eq]
      have hv5 := hv.mono g5
      refine ⟨rfl, item_if (fun C' hC' => ?_) fun hb C' hC' => ?_⟩
      · obtain ⟨s', H', c, cl, fp, rfl⟩ := hC'
        exact et_cmp (co_inI (.inr rfl)) (ex_var 8).int (ev_var 5 (hd := hv5))
      · obtain ⟨s', H', c, cl, fp, rfl⟩ := hC'
        exact (ex_var 8).int
    -- return (askers, tuple([..]))
    have hv4' := hv.mono g4
    refine ss_cons (s_ret (EV.go (B := B) (d := cutD (sideA W S1) (sideR W S1)) g4.tk (ev_tup (ea_cons (ev_var 7 (hd := hv4)) (ea_cons (ev_tupleOf rfl X.Y.tp (EV.to (ev_lc (own := [("room", 9)]) (pat := .nm 9) (xs := rangeD W.m) (outs := oI fun i => decide ((W.n : Int) + i ∈ (places (W.n + W.m + 4)).filter S1))
      (ei_range rfl X.X.rg (EV.to (ev_len rfl X.Y.ln (ev_rooms X.Y.T (ex_var 0) (WA3.mono g4)) sq_bnd) (d' := .int (W.m : Int)) (by rw [List.length_map]; rfl)) (by omega)) (by rw [rangeD_places]; unfold iD places; rw [List.length_map, List.length_map, List.length_range]; omega) rfl scShort.nd (blk_by (N := nCut) (sc := defScope sShort) (by decide +kernel))
      (eg_bn scShort.nd) (fun d hd => True.intro) ?_ ?_) (congrArg PyData.list (by rw [rangeD_places, filterMap_ints, sideR_V]))) (.inl rfl)) ea_nil)) (by show 2 ≤ sizeLine; decide)) fun v6 H6 g6 hv6 => k v6 H6 (some (sideA W S1, sideR W S1)) (g2.trans (g3.trans (g4.trans g6))) ⟨gf, whole, S1, F1, (if_neg hf).symm⟩ hv6))
    · intro d hd d' hd'
      rw [rangeD_places] at hd
      obtain ⟨i, _, rfl⟩ := List.mem_map.mp hd
      exact oI_lf hd'
    · intro d hd H5 σ2 g5 hput
      rw [rangeD_places] at hd
      obtain ⟨i, _, rfl⟩ := List.mem_map.mp hd
      obtain ⟨u5, rfl, hu5⟩ := hput
      rw [hu5.int_eq]
      have hv5 := hv4'.mono g5
      refine ⟨rfl, item_if (fun C' hC' => ?_) fun hb C' hC' => ?_⟩
      · obtain ⟨s', H', c, cl, fp, rfl⟩ := hC'
        exact et_cmp (co_inI (.inr rfl)) (ev_add (ex_var 6).int (ex_var 9).int) (ev_var 5 (hd := hv5))
      · obtain ⟨s', H', c, cl, fp, rfl⟩ := hC'
        exact (ex_var 9).int
end
end K22
end
section
set_option Elab.async false
set_option linter.all false
set_option maxRecDepth 100000
set_option maxHeartbeats 4000000
/-! K22Worth: cut_worth. -/
namespace K22
open PySem PySem.Spec PyProof.Rows L2 NdefX Pm
abbrev sWorth : Stmt := top 18
theorem sm_const {α : Type} (l : List α) (c : Int) : sm l (fun _ => c) = c * (l.length : Int) := by
  induction l with
  | nil => simp [sm_nil]
  | cons a l ih => rw [sm_cons, ih, List.length_cons]; rw [Int.natCast_add, Int.mul_add]; omega
theorem len_side {k : Nat} {A : List Int} (na : A.Nodup) (ia : ∀ a ∈ A, 0 ≤ a ∧ a < (k : Int)) : A.length ≤ k := by
  have h1 := sm_side na ia (fun _ => 1)
  have h2 : sm (List.range k) (fun a => if inq A (a : Int) = true then (1 : Int) else 0) ≤ sm (List.range k) (fun _ => 1) := sm_le fun a _ => by split <;> decide
  rw [sm_const] at h1
  rw [sm_const, List.length_range] at h2
  omega
theorem row_le {W : Wt} (s : Small W) (a : Nat) (q : Int → Bool) : 0 ≤ sm (W.row a) (fun r => if q r = true then (1 : Int) else 0) ∧ sm (W.row a) (fun r => if q r = true then (1 : Int) else 0) ≤ 8 := by
  refine ⟨sm_nonneg fun r _ => by split <;> decide, ?_⟩
  have h : sm (W.row a) (fun r => if q r = true then (1 : Int) else 0) ≤ sm (W.row a) (fun _ => 1) := sm_le fun r _ => by split <;> decide
  rw [sm_const] at h
  have := s.row a
  omega
theorem linked_le {W : Wt} (s : Small W) (A O : List Int) : 0 ≤ linked W A O ∧ linked W A O ≤ 8 * (A.length : Int) := by
  have e : linked W A O = sm A (fun a => sm (W.row a.toNat) (fun r => if decide (r ∈ O) = true then 1 else 0)) := by
    unfold linked
    refine sm_congr fun a _ => sm_congr fun r _ => ?_
    by_cases h : r ∈ O
    · rw [if_pos h, if_pos (decide_eq_true h)]
    · rw [if_neg h, if_neg (by simpa using h)]
  rw [e]
  refine ⟨sm_nonneg fun a _ => (row_le s _ _).1, ?_⟩
  rw [← sm_const]
  exact sm_le fun a _ => (row_le s _ _).2
theorem rooms_at {W : Wt} {r : Int} (h : 0 ≤ r ∧ r < (W.m : Int)) : (W.rooms.map pD)[r.toNat]? = some (pD (W.rlo r.toNat, W.rhi r.toNat)) := by
  have hl : r.toNat < W.rooms.length := by have : W.m = W.rooms.length := rfl; omega
  rw [List.getElem?_map, List.getElem?_eq_getElem hl]
  unfold Wt.rlo Wt.rhi
  rw [List.getD_eq_getElem?_getD, List.getElem?_eq_getElem hl]
  rfl
theorem askers_at {W : Wt} (ok : W.Ok) {a : Int} (h : 0 ≤ a ∧ a < (W.n : Int)) : (W.askers.map pD)[a.toNat]? = some (pD (W.alo a.toNat, W.ahi a.toNat)) := by
  have hl : a.toNat < W.askers.length := by have : W.n = W.lists.length := rfl; have := ok.len; omega
  rw [List.getElem?_map, List.getElem?_eq_getElem hl]
  unfold Wt.alo Wt.ahi
  rw [List.getD_eq_getElem?_getD, List.getElem?_eq_getElem hl]
  rfl
theorem rhi_le {W : Wt} (s : Small W) (r : Nat) : W.rhi r ≤ 1000 := by
  unfold Wt.rhi
  rw [List.getD_eq_getElem?_getD]
  cases h : W.rooms[r]? with
  | none => decide
  | some p => exact s.rb p (List.mem_of_getElem? h)
theorem ahi_le {W : Wt} (s : Small W) (a : Nat) : W.ahi a ≤ 1000 := by
  unfold Wt.ahi
  rw [List.getD_eq_getElem?_getD]
  cases h : W.askers[a]? with
  | none => decide
  | some p => exact s.ab p (List.mem_of_getElem? h)
/-- a list of small values, none below nought -/
theorem small_of {ks : List Int} (h : ∀ k ∈ ks, 0 ≤ k ∧ k ≤ 1000) (hl : ks.length ≤ 1000) : (∀ k ∈ ks, InLong k) ∧ ∀ j, InLong (ks.take j).sum := by
  refine small_sum (fun k hk => (h k hk).1) ?_
  have h1 : ks.sum = sm ks (fun k => k) := by rw [sm_sum, List.map_id']
  have h2 : sm ks (fun k => k) ≤ sm ks (fun _ => 1000) := sm_le fun k hk => (h k hk).2
  rw [sm_const] at h2
  omega
/-- highs of the askers that are not in A -/
def oAsk (A : List Int) : PyData → Option PyData
  | .tuple [.int a, .tuple [.int _, .int h]] => if (!decide (a ∈ A)) = true then some (.int h) else none
  | _ => none
theorem ask_data {W : Wt} (ok : W.Ok) (A : List Int) : (enumD (W.askers.map pD)).filterMap (oAsk A) = (((List.range W.n).filter fun a : Nat => !decide ((a : Int) ∈ A)).map W.ahi).map PyData.int := by
  rw [enumD_range pD W.askers (0, 0), ok.len]
  show ((List.range W.n).map _).filterMap _ = _
  rw [fm_if (enc := fun i : Nat => PyData.tuple [.int (i : Int), pD (W.askers.getD i (0, 0))]) (outs := oAsk A) (f := fun i => .int (W.ahi i)) (p := fun i : Nat => !decide ((i : Int) ∈ A)) (fun i => rfl), List.map_map]
  rfl
theorem ask_sum {W : Wt} (A : List Int) : (((List.range W.n).filter fun a : Nat => !decide ((a : Int) ∈ A)).map W.ahi).sum = sm (List.range W.n) (fun a => if (a : Int) ∈ A then 0 else W.ahi a) := by
  rw [← sm_sum, sm_filter]
  refine sm_congr fun a _ => ?_
  by_cases h : (a : Int) ∈ A <;> simp [h]
/-- what linked asks -/
structure Lkd (K : PySem.W.Frag) (mg : Str → Option Value) (base : Heap) (Cw fLk cLk PLk : Addr) (fdLk : FuncData) : Prop where
  F : FunC K "linked" "Wants.linked" sLinked fLk cLk fdLk
  T : GxR.TabB base mg cLk PLk
  b : Binds K fdLk ["self", "askers", "rooms"] []
  m : Meth K Cw "linked" fLk
section
variable {P : Program} {w : World} {K : PySem.W.Frag} {mg : Str → Option Value} {base : Heap} {Cw cBS fLk cLk PLk : Addr} {fdLk : FuncData}
/-- wants.linked(a, b) -/
theorem ev_linked {B : Amb} {C : Cx} {k : Nat} {o a b : Expr} {σ : L2.St} {H : Hp} {apos pos : Pos} {p : Addr} {W : Wt} {d1 d2 : PyData} {A O : List Int} (hK : C.K = K) (hmg : C.mg = mg) (hbs : C.base = base) (X : WTx K mg Cw cBS) (Z : Lkd K mg base Cw fLk cLk PLk fdLk) (hr : Room (k + 2) C.A) (hPL : PLk ∈ B.TG) (WA : WantAt B.X Cw H p W) (s : Small W)
    (ho : EX B C o σ H (.ref p)) (ha : EV B C a σ H d1) (q1 : Sq d1 (iD A)) (hb : EV B C b σ H d2) (q2 : Sq d2 (iD O)) (hA : ∀ a ∈ A, 0 ≤ a ∧ a < (W.lists.length : Int)) (hl : A.length ≤ 1000)
    (h1 : starEach [a, b] C.env = (false, eval a C.env) :: starEach [b] C.env := by rfl) (h2 : starEach [b] C.env = (false, eval b C.env) :: starEach [] C.env := by rfl) (hpl : (backTo pos (starEach [b] C.env)).any (·.1) = false := by rfl) {pl : Sem Bool}
    (ht : eval (.Call (.Attribute o "linked" apos) [a, b] [] pos) C.env = (do
      let ov ← eval o C.env
      standAt apos.atName
      let (f, first) ← holding [ov] (getMethod ov "linked" pl)
      callWith pos f first (backTo pos (starEach [a, b] C.env)) (backToKw pos (keywordEach [] C.env))) := by rfl) : EV B C (.Call (.Attribute o "linked" apos) [a, b] [] pos) σ H (.int (linked W A O)) := by
  subst hK hmg hbs
  obtain ⟨dx, v1, v2, v3, e, _⟩ := id WA.ex
  refine EVP.int (evp_meth (ok_linked Z.F Z.T X) (hr.mono (by omega)) Z.b pass0 X.T.cl Z.m ho e (wfl_no _ _ _ (by decide +kernel) (by decide +kernel) (by decide +kernel)) (eap_d ha (eap_d hb eap_nil h2) h1) (fun H2 vs Q g2 hvs q => ?_) h1 hpl ht)
  obtain ⟨v, ws, rfl, hv, u, ws2, rfl, hu, rfl⟩ := hvs
  refine ⟨B, p, v, u, W, d1, d2, A, O, rfl, g2.tk, hPL, WA.mono g2, hv, q1, hu, q2, hA, ?_, fun H' g3 => q _ H' g3 rfl⟩
  have := linked_le s A O
  omega
/-- askers, rooms = cut -/
theorem two {C : Cx} {D : Ends} {i1 i2 : Nat} {x1 x2 : Str} {p1 p2 tp : Pos} {kk : Nat} {t : Addr} {v1 v2 : V} {σ : L2.St} {H : Hp} (hc : C.calm = true) (nd : C.N.Nodup) (h1 : C.N[i1]? = some x1) (h2 : C.N[i2]? = some x2) (l1 : Loc C.env.scope x1) (l2 : Loc C.env.scope x2) (f1 : C.fn x1 = true ∨ C.env.scope.names.lookup x1 = some .local) (f2 : C.fn x2 = true ∨ C.env.scope.names.lookup x2 = some .local) (e : H t = some (.tup [v1, v2]))
    (q : D.nx ((σ.set i1 (some v1)).set i2 (some v2)) H) : tSG C (.Tuple [.Name x1 p1, .Name x2 p2] kk tp) (.ref t) σ H fun σ' H' => D.nx σ' H' :=
  of_pg (pg_tup hc (pgs_cons (pg_name nd h1 l1 f1) (pgs_cons (pg_name nd h2 l2 f2) pgs_nil))) ⟨t, _, rfl, .inl (.inl e), rfl, _, _, rfl, _, _, rfl, rfl, q⟩
theorem Is.two {X : List Addr} {H : Hp} {v : V} {d1 d2 : PyData} (h : Is X H v (.tuple [d1, d2])) : ∃ t v1 v2, v = .ref t ∧ H t = some (.tup [v1, v2]) ∧ Is X H v1 d1 ∧ Is X H v2 d2 := by
  obtain ⟨a, xs, rfl, e, hx, hl, hi⟩ := h.tup_at
  match xs, hl with
  | [v1, v2], _ => exact ⟨a, v1, v2, rfl, e, hi 0 v1 d1 rfl rfl, hi 1 v2 d2 rfl rfl⟩
theorem outs_data (k : Nat) (R : List Int) : (rangeD k).filterMap (oI fun i => !decide (i ∈ R)) = iD (outs k R) := by
  rw [rangeD_places, filterMap_ints]
  unfold outs
  congr 1
  refine List.filter_congr fun a _ => ?_
  by_cases h : a ∈ R <;> simp [h]
/-- name = [elt for target in iter if ..] on one line, the name a plain local -/
theorem s_setLc (i : Nat) {B : Amb} {C : Cx} {D : Ends} {tg iter elt : Expr} {ifs : List Expr} {σ : L2.St} {H : Hp} {pos spos py : Pos} {y : Str} {scope : Scope} {own : List (Str × Nat)} {pat : Pat} {xs : List PyData} {outs : PyData → Option PyData} (tk : TK B H)
    (hi : EI B C tg iter σ H xs) (hlen : xs.length ≤ 1000000) (hc : C.calm = true) (hN : C.N.Nodup) (ok : BlkOk C.N C.env.scope scope own) (hg : EG B (Blk C scope) tg pat) (hsh : ∀ d ∈ xs, Shape pat d) (hlf : ∀ d ∈ xs, ∀ d', outs d = some d' → LF d')
    (item : ∀ d ∈ xs, ∀ H3 σ2, Gr B H H3 → Put B.X H3 pat d (wipe σ (own.map (·.2))) σ2 → wipe σ2 (own.map (·.2)) = wipe σ (own.map (·.2)) ∧ Item B (Blk C scope) ifs elt σ2 H3 (outs d))
    (q : ∀ v H2, Gr B H H2 → Is B.X H2 v (.list (xs.filterMap outs)) → D.nx (σ.set i (some v)) H2)
    (hy : C.N[i]? = some y := by rfl) (hyl : C.env.scope.names.lookup y = some .local := by rfl) (hk : C.env.scope.kind = .function := by rfl) (hl : (py.line == pos.line) = true := by rfl) (ha : (scope.names.any fun (n, k) => n == y && (k == .local || k == .cell)) = false := by decide +kernel) (hs : ∀ x, foldedSetIterable iter C.env x = pure x := by intro _; rfl) :
    sS C (.Assign [.Name y py] (.ListComp elt [⟨tg, iter, ifs, 0⟩] scope pos) spos) D σ H := by
  obtain ⟨wi, pi, hwi⟩ := hi
  refine of_ps (ps_setLc hc hN hy hyl (sw_true hk hyl hl ha) pi ok (fun s H c cl fp => pg_F (F := Blk C scope) ⟨s, H, c, cl, fp, rfl⟩) (fun s H c cl fp => pts_F (F := Blk C scope) ⟨s, H, c, cl, fp, rfl⟩) (fun s H c cl fp => pe_F (F := Blk C scope) ⟨s, H, c, cl, fp, rfl⟩) hs) ?_
  exact lc_reads hwi hlen hg hsh hlf item (.refl tk) q
/-! ### cut_worth -/
def spWorth (Cw PC PLk : Addr) : Sp := fun vs H Q _ => ∃ (B : Amb) (p : Addr) (vc : V) (W : Wt) (A R : List Int), vs = [.ref p, vc] ∧ TK B H ∧ PC ∈ B.TG ∧ PLk ∈ B.TG ∧ WantAt B.X Cw H p W ∧ W.Ok ∧ Small W ∧ Is B.X H vc (cutD A R) ∧ Sides W A R ∧
  ∀ H', Gr B H H' → Q (.int (cutWorth W A R)) H'
abbrev nWorth : List Str := ["wants", "cut", "askers", "rooms", "outside", "whole", "room"]
theorem scWorth : FnScope nWorth ["wants", "cut"] (defScope sWorth) := ⟨rfl, rfl, rfl, by decide +kernel, rfl, by decide +kernel, by decide +kernel⟩
theorem ok_worth {f c PC : Addr} {fd : FuncData} (F : FunC K "cut_worth" "cut_worth" sWorth f c fd) (TB : GxR.TabB base mg c PC) (X : WTx K mg Cw cBS) (rg : mg "range" = none) (en : mg "enumerate" = none) (Z : Lkd K mg base Cw fLk cLk PLk fdLk) : FnOk P w K mg base CX0 3 f fd ["wants", "cut"] (spWorth Cw PC PLk) := by
  refine F.ok scWorth (fun vs H Q E h => ?_) (fun A outer s H vs Q E hr h => ?_)
  · obtain ⟨B, p, vc, W, A, R, rfl, _⟩ := h
    rfl
  · obtain ⟨B, p, vc, W, A1, R, rfl, tk, hPC, hPL, WA, ok, sm_, hcut, sd, k⟩ := h
    have hu := hu_of hr
    have h1 := sm_.n
    have h2 := sm_.m
    have e1 : W.n = W.lists.length := rfl
    have e2 : W.m = W.rooms.length := rfl
    have lA := len_side sd.na sd.ia
    have lR := len_side sd.nr sd.ir
    refine ⟨_, pss_S, ?_⟩
    -- askers, rooms = cut
    obtain ⟨t, va, vr, rfl, et, ha, hr'⟩ := hcut.two
    refine ss_cons (s_asg (EVP.go tk (ex_var 1) fun v H1 g1 hv => ?_))
    subst hv
    refine two (i1 := 2) (i2 := 3) rfl scWorth.nd rfl rfl (.inr rfl) (.inr rfl) (.inl rfl) (.inl rfl) (g1.keep _ _ et fun ps z => by cases z) ?_
    have WA1 := WA.mono g1
    have ha1 := ha.mono g1
    have hr1 := hr'.mono g1
    -- outside = [..]
    refine ss_cons (s_setLc 4 g1.tk (own := [("room", 6)]) (pat := .nm 6) (xs := rangeD W.m) (outs := oI fun i => !decide (i ∈ R))
      (ei_range rfl rg (EV.to (ev_len rfl X.ln (ev_rooms X.T (ex_var 0) WA1) sq_bnd) (d' := .int (W.m : Int)) (by rw [List.length_map]; rfl)) (by omega)) (by rw [rangeD_places]; unfold iD places; rw [List.length_map, List.length_map, List.length_range]; omega) rfl scWorth.nd (blk_by (N := nWorth) (sc := defScope sWorth) (by decide +kernel))
      (eg_bn scWorth.nd) (fun d hd => True.intro) ?_ ?_ fun v2 H2 g2 hv2 => ?_)
    · intro d hd d' hd'
      rw [rangeD_places] at hd
      obtain ⟨i, _, rfl⟩ := List.mem_map.mp hd
      exact oI_lf hd'
    · intro d hd H5 σ2 g5 hput
      rw [rangeD_places] at hd
      obtain ⟨i, _, rfl⟩ := List.mem_map.mp hd
      obtain ⟨u5, rfl, hu5⟩ := hput
      rw [hu5.int_eq]
      have hr5 := hr1.mono g5
      refine ⟨rfl, item_if (fun C' hC' => ?_) fun hb C' hC' => ?_⟩
      · obtain ⟨s', H', c, cl, fp, rfl⟩ := hC'
        exact et_cmp (co_notInI (.inr rfl)) (ex_var 6).int (ev_var 3 (hd := hr5))
      · obtain ⟨s', H', c, cl, fp, rfl⟩ := hC'
        exact (ex_var 6).int
    rw [outs_data] at hv2
    have g12 := g1.trans g2
    have WA2 := WA.mono g12
    have ha2 := ha.mono g12
    have hr2 := hr'.mono g12
    -- whole = sum(..)
    refine ss_cons (s_set 5 scWorth.nd (EV.go g2.tk (EVP.int (n := sm (List.range W.n) (fun a => if (a : Int) ∈ A1 then 0 else W.ahi a)) (evp_gen1 .sum (k := 0) (N := [".0", "askers", "asker", "low", "high"]) (fr := ["askers"]) (js := [2]) (pat := .two (.nm 2) (.two (.nm 3) (.nm 4))) (xs := enumD (W.askers.map pD)) (outs := oAsk A1)
      (hr.mono (by decide)) rfl X.sm (gtxt (defScope sWorth) TB (by decide +kernel)) hPC (ei_enumT rfl en (ev_askers X.T (ex_var 0) WA2)) (eg_gt (eg_gn (by decide +kernel) rfl rfl) (eg_gt (eg_gn (by decide +kernel) rfl rfl) (eg_gn (by decide +kernel) rfl rfl))) ?_ ?_ (fun σ => ∃ a b c, σ = [none, some va, a, b, c]) ⟨none, none, none, rfl⟩ ?_ ?_)) fun v3 H3 g3 hv3 => ?_))
    · intro d hd
      obtain ⟨i, pr, _, rfl⟩ := enum_mem hd
      exact ⟨_, _, rfl, True.intro, _, _, rfl, True.intro, True.intro⟩
    · intro d hd d' hd'
      obtain ⟨i, pr, _, rfl⟩ := enum_mem hd
      have hd' : (if (!decide ((i : Int) ∈ A1)) = true then some (PyData.int pr.2) else none) = some d' := hd'
      by_cases h : (!decide ((i : Int) ∈ A1)) = true
      · rw [if_pos h] at hd'; cases hd'; exact .inr ⟨_, rfl⟩
      · rw [if_neg h] at hd'; cases hd'
    · rintro d hd H6 σ1 σ2 g6 ⟨a1, b1, c1, rfl⟩ ⟨d1, d2, σ3, ed, ⟨w1, rfl, z1⟩, ⟨d3, d4, σ4, ed2, ⟨w2, rfl, z2⟩, ⟨w3, rfl, z3⟩⟩⟩
      obtain ⟨i, pr, _, rfl⟩ := enum_mem hd
      cases ed
      cases ed2
      rw [z1.int_eq, z2.int_eq, z3.int_eq]
      have ha6 := ha2.mono g6
      refine ⟨⟨_, _, _, rfl⟩, item_if (fun C' hC' => ?_) fun _ C' hC' => ?_⟩
      · obtain ⟨A', s', H', cc, code, fp, pn, hA', rfl⟩ := hC'
        exact et_cmp (co_notInI (.inr rfl)) (ex_var 2).int (ev_var 1 (hd := ha6))
      · obtain ⟨A', s', H', cc, code, fp, pn, hA', rfl⟩ := hC'
        exact (ex_var 4).int
    · have sm2 := small_of (ks := ((List.range W.n).filter fun a : Nat => !decide ((a : Int) ∈ A1)).map W.ahi) (fun k hk => by
        obtain ⟨a, ha, rfl⟩ := List.mem_map.mp hk
        have h3 := ok.ab a (List.mem_range.mp (List.mem_filter.mp ha).1)
        have h4 := ahi_le sm_ a
        omega) (by rw [List.length_map]; exact Nat.le_trans (List.length_filter_le _ _) (by rw [List.length_range]; omega))
      have := k_sum (ask_data ok A1) sm2.1 sm2.2
      rw [ask_sum] at this
      exact this
    rw [hv3.int_eq]
    have g13 := g12.trans g3
    have WA3 := WA.mono g13
    have ha3 := ha.mono g13
    have hr3 := hr'.mono g13
    have hv23 := hv2.mono g3
    -- return whole + sum(..) + wants.linked(askers, outside)
    refine ss_cons (s_ret (EV.go (B := B) (d := .int (cutWorth W A1 R)) g3.tk (ev_add (ev_add (ex_var 5).int (EVP.int (n := sm R (fun r => W.rhi r.toNat)) (evp_gen1 .sum (k := 0) (N := [".0", "wants", "room"]) (fr := ["wants"]) (js := [0]) (pat := .nm 2) (xs := iD R) (outs := oN fun r => .int (W.rhi r.toNat))
      (hr.mono (by decide)) rfl X.sm (gtxt (defScope sWorth) TB (by decide +kernel)) hPC (ei_tup (ev_var 3 (hd := hr3))) (eg_gn (by decide +kernel) rfl rfl) (fun _ _ => True.intro) ?_ (fun σ => ∃ a, σ = [none, some (.ref p), a]) ⟨none, rfl⟩ ?_ ?_))) (ev_linked rfl rfl rfl X Z (k := 0) (hr.mono (by decide)) hPL WA3 sm_ (ex_var 0) (ev_var 2 (hd := ha3)) (.inr rfl) (ev_var 4 (hd := hv23)) (.inl rfl) sd.ia (by omega))) fun v4 H4 g4 hv4 => by rw [hv4.int_eq]; exact k H4 (g13.trans g4)))
    · intro d hd d' hd'
      obtain ⟨r, _, rfl⟩ := List.mem_map.mp hd
      cases hd'
      exact .inr ⟨_, rfl⟩
    · rintro d hd H6 σ1 σ2 g6 ⟨a1, rfl⟩ ⟨w1, rfl, z1⟩
      obtain ⟨r, hrm, rfl⟩ := List.mem_map.mp hd
      rw [z1.int_eq]
      refine ⟨⟨_, rfl⟩, item_all fun C' hC' => ?_⟩
      obtain ⟨A', s', H', cc, code, fp, pn, hA', rfl⟩ := hC'
      exact ev_ix (ev_ix (ev_rooms X.T (ex_var 1) (WA3.mono g6)) sq_bnd (ex_var 2).int (Int.toNat_of_nonneg (sd.ir r hrm).1).symm (rooms_at (sd.ir r hrm))) (.inr rfl) ev_int (k := 1) rfl rfl
    · have sm2 := small_of (ks := R.map fun r => W.rhi r.toNat) (fun k hk => by
        obtain ⟨r, hrm, rfl⟩ := List.mem_map.mp hk
        have h5 := sd.ir r hrm
        have h3 := ok.rb r.toNat (by omega)
        have h4 := rhi_le sm_ r.toNat
        omega) (by rw [List.length_map]; omega)
      have := k_sum (ys := (iD R).filterMap (oN fun r => .int (W.rhi r.toNat))) (ks := R.map fun r => W.rhi r.toNat) (by rw [fmN, List.map_map]; rfl) sm2.1 sm2.2
      rw [← sm_sum] at this
      exact this
end
end K22
end
section
set_option Elab.async false
set_option linter.all false
set_option maxRecDepth 100000
set_option maxHeartbeats 4000000
/-! K22Check: check_cut. -/
namespace K22
open PySem PySem.Spec PyProof.Rows L2 NdefX Pm
abbrev sCheck : Stmt := top 22
def unI (ds : List PyData) : List Int := ds.map fun d => match d with | .int i => i | _ => 0
theorem unI_iD (L : List Int) : unI (iD L) = L := by
  unfold unI iD
  rw [List.map_map]
  exact List.map_id' L
def dupB (L : List Int) : Bool := !decide (((ded [] L).length : Int) = (L.length : Int))
theorem dupB_eq (L : List Int) : dupB L = !decide L.Nodup := by
  unfold dupB
  congr 1
  rw [Bool.eq_iff_iff, decide_eq_true_iff, decide_eq_true_iff]
  have h := ded_len (rs := L) (acc := []) List.nodup_nil
  simp only [List.length_nil, Nat.zero_add, List.nil_append] at h
  constructor
  · intro e
    exact h.2 (by omega)
  · intro nd
    rw [ded_nodup (by simpa using nd), List.nil_append]
theorem kvS_len (L : List Int) : (kvS L).length = L.length := by unfold kvS; rw [List.length_map]
/-- len(dict([(x, 1) ..])) -/
theorem ev_lenDict {B : Amb} {C : Cx} {e : Expr} {σ : L2.St} {H : Hp} {p1 p2 p3 pos : Pos} {rs : List Int} (hc : C.calm = true) (hg : Gl C "dict") (hm : C.mg "dict" = none) (hg2 : Gl C "len") (hm2 : C.mg "len" = none) (he : EV B C e σ H (.list (rs.map oneD)))
    (hs : starEach [e] C.env = (false, eval e C.env) :: starEach [] C.env := by rfl) (hs2 : starEach [.Call (.Name "dict" p1) [e] [] p2] C.env = (false, eval (.Call (.Name "dict" p1) [e] [] p2) C.env) :: starEach [] C.env := by rfl) :
    EV B C (.Call (.Name "len" p3) [.Call (.Name "dict" p1) [e] [] p2] [] pos) σ H (.int ((ded [] rs).length : Int)) := fun H1 g Q k =>
  of_pe (pe_callB call_lenD hg2 hm2 boot_len (pa_cons pe_S pa_nil hs2) (he := hs2)) ((evp_dict hc hg hm he hs) H1 g _ fun v H2 g2 ⟨a, ev, ea⟩ => by
    subst ev
    exact ⟨a, _, rfl, ea, by rw [kvS_len]; exact k _ H2 g2 (.int _)⟩)
def oSide : PyData → Option PyData
  | .tuple ds => some (.bool (dupB (unI ds)))
  | _ => none
def inB (k : Nat) (r : Int) : Bool := !(decide (0 ≤ r) && decide (r < (k : Int)))
/-- what check_cut finds -/
def cutOk (W : Wt) (A R : List Int) : Bool := !A.any (inB W.n) && !R.any (inB W.m) && decide A.Nodup && decide R.Nodup && checkB W A R
theorem cutOk_sides {W : Wt} {A R : List Int} (h1 : A.any (inB W.n) = false) (h2 : R.any (inB W.m) = false) (h3 : dupB A = false) (h4 : dupB R = false) : Sides W A R ∧ cutOk W A R = checkB W A R := by
  rw [dupB_eq] at h3 h4
  have n1 : A.Nodup := by simpa using h3
  have n2 : R.Nodup := by simpa using h4
  have key : ∀ (k : Nat) (L : List Int), L.any (inB k) = false → ∀ x ∈ L, 0 ≤ x ∧ x < (k : Int) := fun k L h x hx => by
    have := List.any_eq_false.mp h x hx
    unfold inB at this
    simpa using this
  refine ⟨⟨n1, n2, key _ _ h1, key _ _ h2⟩, ?_⟩
  unfold cutOk
  rw [h1, h2, decide_eq_true n1, decide_eq_true n2]
  simp
theorem outs_len (k : Nat) (R : List Int) : (outs k R).length ≤ k := by
  unfold outs
  exact Nat.le_trans (List.length_filter_le _ _) (by unfold places; rw [List.length_map, List.length_range]; exact Nat.le_refl _)
theorem outs_in {k : Nat} {R : List Int} : ∀ r ∈ outs k R, 0 ≤ r ∧ r < (k : Int) := fun r hr => mem_places.mp (List.mem_filter.mp hr).1
section
variable {P : Program} {w : World} {K : PySem.W.Frag} {mg : Str → Option Value} {base : Heap} {Cw cBS cBP fLk cLk PLk : Addr} {fdLk : FuncData}
theorem nd3 : ([".0", "side", "one"] : List Str).Nodup := by decide +kernel
def spCheck (Cw PC PLk cBP : Addr) : Sp := fun vs H Q E => ∃ (B : Amb) (p : Addr) (vc : V) (W : Wt) (A R : List Int), vs = [.ref p, vc] ∧ TK B H ∧ PC ∈ B.TG ∧ PLk ∈ B.TG ∧ WantAt B.X Cw H p W ∧ W.Ok ∧ Small W ∧ Is B.X H vc (cutD A R) ∧ A.length ≤ 100 ∧ R.length ≤ 100 ∧
  (cutOk W A R = true → ∀ H', Gr B H H' → Q (.bl true) H') ∧ (cutOk W A R = false → ∀ H', Gr B H H' → E (.ref cBP) none H')
abbrev nCheck : List Str := ["wants", "cut", "askers", "rooms", "others", "outside", "low_in", "low_out", "high_in", "high_out", "asker", "room"]
theorem scCheck : FnScope nCheck ["wants", "cut"] (defScope sCheck) := ⟨rfl, rfl, rfl, by decide +kernel, rfl, by decide +kernel, by decide +kernel⟩
theorem ok_check {f c PC : Addr} {fd : FuncData} (F : FunC K "check_cut" "check_cut" sCheck f c fd) (TB : GxR.TabB base mg c PC) (X : WTx K mg Cw cBS) (rg : mg "range" = none) (bp : XC K mg "BadPaper" cBP) (Z : Lkd K mg base Cw fLk cLk PLk fdLk) : FnOk P w K mg base (L2.CX P w) 3 f fd ["wants", "cut"] (spCheck Cw PC PLk cBP) := by
  refine F.okX scCheck (fun vs H Q E h => ?_) (fun A outer s H vs Q E hr h => ?_)
  · obtain ⟨B, p, vc, W, A, R, rfl, _⟩ := h
    rfl
  · obtain ⟨B, p, vc, W, A1, R, rfl, tk, hPC, hPL, WA, ok, sm_, hcut, lA, lR, kok, kbad⟩ := h
    have hu := hu_of hr
    have h1 := sm_.n
    have h2 := sm_.m
    have e1 : W.n = W.lists.length := rfl
    have e2 : W.m = W.rooms.length := rfl
    refine ⟨_, pss_S, ?_⟩
    -- askers, rooms = cut
    obtain ⟨t, va, vr, rfl, et, ha, hr'⟩ := hcut.two
    refine ss_cons (s_asg (EVP.go tk (ex_var 1) fun v H1 g1 hv => ?_))
    subst hv
    refine two (i1 := 2) (i2 := 3) rfl scCheck.nd rfl rfl (.inr rfl) (.inr rfl) (.inl rfl) (.inl rfl) (g1.keep _ _ et fun ps z => by cases z) ?_
    have WA1 := WA.mono g1
    have ha1 := ha.mono g1
    have hr1 := hr'.mono g1
    have hc1 := hcut.mono g1
    -- if any(..) or any(..): raise
    refine ss_cons (s_if (ET.go (B := B) (b := A1.any (inB W.n) || R.any (inB W.m)) g1.tk (et_or
      (et_val (EVP.bool (evp_gen1 .any (k := 0) (N := [".0", "wants", "one"]) (fr := ["wants"]) (js := [0]) (pat := .nm 2) (xs := iD A1) (outs := oN fun r => .bool (inB W.n r))
        (hr.mono (by decide)) rfl X.an (gtxt (defScope sCheck) TB (by decide +kernel)) hPC (ei_tup (ev_var 2 (hd := ha1))) (eg_gn (by decide +kernel) rfl rfl) (fun _ _ => True.intro) ?_ (fun σ => ∃ a, σ = [none, some (.ref p), a]) ⟨none, rfl⟩ ?_ ?_)))
      fun _ => (et_val (EVP.bool (evp_gen1 .any (k := 0) (N := [".0", "wants", "one"]) (fr := ["wants"]) (js := [0]) (pat := .nm 2) (xs := iD R) (outs := oN fun r => .bool (inB W.m r))
        (hr.mono (by decide)) rfl X.an (gtxt (defScope sCheck) TB (by decide +kernel)) hPC (ei_tup (ev_var 3 (hd := hr1))) (eg_gn (by decide +kernel) rfl rfl) (fun _ _ => True.intro) ?_ (fun σ => ∃ a, σ = [none, some (.ref p), a]) ⟨none, rfl⟩ ?_ ?_)))) fun H2 g2 => ?_))
    · intro d hd d' hd'
      obtain ⟨r, _, rfl⟩ := List.mem_map.mp hd
      cases hd'
      exact .inl ⟨_, rfl⟩
    · rintro d hd H6 σ1 σ2 g6 ⟨a1, rfl⟩ ⟨w1, rfl, z1⟩
      obtain ⟨r, hrm, rfl⟩ := List.mem_map.mp hd
      rw [z1.int_eq]
      refine ⟨⟨_, rfl⟩, item_all fun C' hC' => ?_⟩
      obtain ⟨A', s', H', cc, code, fp, pn, hA', rfl⟩ := hC'
      exact ev_not (ev_chain co_le co_lt ev_int (ex_var 2).int (EV.to (ev_len rfl X.ln (ev_lists X.T (ex_var 1) (WA1.mono g6)) sq_lists) (by rw [List.length_map]; rfl)))
    · have := k_any (bs := A1.map (inB W.n)) (ys := (iD A1).filterMap (oN fun r => .bool (inB W.n r))) (by rw [fmN, List.map_map]; rfl)
      rw [List.any_map] at this
      exact this
    · intro d hd d' hd'
      obtain ⟨r, _, rfl⟩ := List.mem_map.mp hd
      cases hd'
      exact .inl ⟨_, rfl⟩
    · rintro d hd H6 σ1 σ2 g6 ⟨a1, rfl⟩ ⟨w1, rfl, z1⟩
      obtain ⟨r, hrm, rfl⟩ := List.mem_map.mp hd
      rw [z1.int_eq]
      refine ⟨⟨_, rfl⟩, item_all fun C' hC' => ?_⟩
      obtain ⟨A', s', H', cc, code, fp, pn, hA', rfl⟩ := hC'
      exact ev_not (ev_chain co_le co_lt ev_int (ex_var 2).int (EV.to (ev_len rfl X.ln (ev_rooms X.T (ex_var 1) (WA1.mono g6)) sq_bnd) (by rw [List.length_map]; rfl)))
    · have := k_any (bs := R.map (inB W.m)) (ys := (iD R).filterMap (oN fun r => .bool (inB W.m r))) (by rw [fmN, List.map_map]; rfl)
      rw [List.any_map] at this
      exact this
    have g12 := g1.trans g2
    have hc2 := hcut.mono g12
    refine ⟨fun z => ss_cons (s_raise rfl (takes_of rfl rfl rfl rfl) bp rfl (kbad ?_ _ g12)), fun z => ss_nil ?_⟩
    · unfold cutOk
      rcases Bool.or_eq_true_iff.mp z with z | z <;> rw [z] <;> simp
    rw [Bool.or_eq_false_iff] at z
    -- if any(len(dict(..)) != len(side) for side in cut): raise
    refine ss_cons (s_if (ET.go (B := B) (b := dupB A1 || dupB R) g2.tk (et_val (EVP.bool (evp_gen1 .any (k := 0) (N := [".0", "side", "one"]) (fr := []) (js := []) (pat := .nm 1) (xs := [rowD A1, rowD R]) (outs := oSide)
        (hr.mono (by decide)) rfl X.an (gtxt (defScope sCheck) TB (by decide +kernel)) hPC (ei_tup (ev_var 1 (hd := hc2))) (eg_gn (by decide +kernel) rfl rfl) (fun _ _ => True.intro) ?_ (fun σ => ∃ a b, σ = [none, a, b]) ⟨none, none, rfl⟩ ?_ ?_))) fun H3 g3 => ?_))
    · intro d hd d' hd'
      have : ∃ L : List Int, d = rowD L := by
        rcases List.mem_cons.mp hd with e | hd
        · exact ⟨_, e⟩
        · exact ⟨_, List.mem_singleton.mp hd⟩
      obtain ⟨L, rfl⟩ := this
      cases hd'
      exact .inl ⟨_, rfl⟩
    · rintro d hd H6 σ1 σ2 g6 ⟨a1, b1, rfl⟩ ⟨w1, rfl, z1⟩
      have : ∃ L : List Int, d = rowD L ∧ L.length ≤ 100 := by
        rcases List.mem_cons.mp hd with e | hd
        · exact ⟨_, e, lA⟩
        · exact ⟨_, List.mem_singleton.mp hd, lR⟩
      obtain ⟨L, rfl, lL⟩ := this
      refine ⟨⟨_, _, rfl⟩, ?_⟩
      have eo : oSide (rowD L) = some (.bool (!decide (((ded [] L).length : Int) = (L.length : Int)))) := by
        show some (PyData.bool (dupB (unI (iD L)))) = _
        rw [unI_iD]
        rfl
      rw [eo]
      refine item_all fun C' hC' => ?_
      obtain ⟨A', s', H', cc, code, fp, pn, hA', rfl⟩ := hC'
      refine ev_cmp co_neI (ev_lenDict rfl rfl X.di rfl X.ln (EV.to (ev_lc (own := [(".0", 0), ("one", 2)]) (pat := .nm 2) (xs := iD L) (outs := oN oneD) (ei_tup (ev_var 1 (hd := z1))) (by rw [iD_len]; omega) rfl nd3 (blk_nf (N := [".0", "side", "one"]) (by decide +kernel)) (eg_bn nd3) (fun d _ => True.intro) ?_ ?_) ?_)) (EV.to (ev_len rfl X.ln (ev_var 1 (hd := z1)) (.inr rfl)) (by rw [iD_len]))
      · intro d hd d' hd'
        obtain ⟨i, _, rfl⟩ := List.mem_map.mp hd
        cases hd'
        exact lf_pair (.int _) (.int _)
      · intro d hd H4 σ3 g4 hput
        obtain ⟨i, _, rfl⟩ := List.mem_map.mp hd
        obtain ⟨v', rfl, hv'⟩ := hput
        rw [hv'.int_eq]
        refine ⟨rfl, item_all fun C' hC' => ?_⟩
        obtain ⟨s', H', cc, cl, fp, rfl⟩ := hC'
        exact ev_tup (ea_cons (ex_var 2).int (ea_cons ev_int ea_nil)) (by show 2 ≤ sizeLine; decide)
      · exact congrArg PyData.list (fm_map (enc := PyData.int) (outs := oN oneD) (f := oneD) (fun a => rfl) L)
    · have := k_any (bs := [dupB A1, dupB R]) (ys := [rowD A1, rowD R].filterMap oSide) (by
        show [PyData.bool (dupB (unI (iD A1))), PyData.bool (dupB (unI (iD R)))] = _
        rw [unI_iD, unI_iD]
        rfl)
      have e3 : [dupB A1, dupB R].any id = (dupB A1 || dupB R) := by simp
      rw [e3] at this
      exact this
    have g13 := g12.trans g3
    refine ⟨fun z' => ss_cons (s_raise rfl (takes_of rfl rfl rfl rfl) bp rfl (kbad ?_ _ g13)), fun z' => ss_nil ?_⟩
    · unfold cutOk
      rw [dupB_eq, dupB_eq] at z'
      rcases Bool.or_eq_true_iff.mp z' with z' | z' <;> simp at z' <;> simp [z']
    rw [Bool.or_eq_false_iff] at z'
    obtain ⟨sd, hok⟩ := cutOk_sides z.1 z.2 z'.1 z'.2
    rw [hok] at kok kbad
    have lA8 := len_side sd.na sd.ia
    have lR8 := len_side sd.nr sd.ir
    have WA3 := WA.mono g13
    have ha3 := ha.mono g13
    have hr3 := hr'.mono g13
    -- others = [..]
    refine ss_cons (s_setLc 4 g3.tk (own := [("asker", 10)]) (pat := .nm 10) (xs := rangeD W.n) (outs := oI fun i => !decide (i ∈ A1))
      (ei_range rfl rg (EV.to (ev_len rfl X.ln (ev_lists X.T (ex_var 0) WA3) sq_lists) (d' := .int (W.n : Int)) (by rw [List.length_map]; rfl)) (by omega)) (by rw [rangeD_places]; unfold iD places; rw [List.length_map, List.length_map, List.length_range]; omega) rfl scCheck.nd (blk_by (N := nCheck) (sc := defScope sCheck) (by decide +kernel))
      (eg_bn scCheck.nd) (fun d hd => True.intro) ?_ ?_ fun v4 H4 g4 hv4 => ?_)
    · intro d hd d' hd'
      rw [rangeD_places] at hd
      obtain ⟨i, _, rfl⟩ := List.mem_map.mp hd
      exact oI_lf hd'
    · intro d hd H5' σ2 g5' hput
      rw [rangeD_places] at hd
      obtain ⟨i, _, rfl⟩ := List.mem_map.mp hd
      obtain ⟨u5, rfl, hu5⟩ := hput
      rw [hu5.int_eq]
      have hz5 := ha3.mono g5'
      refine ⟨rfl, item_if (fun C' hC' => ?_) fun hb C' hC' => ?_⟩
      · obtain ⟨s', H', c, cl, fp, rfl⟩ := hC'
        exact et_cmp (co_notInI (.inr rfl)) (ex_var 10).int (ev_var 2 (hd := hz5))
      · obtain ⟨s', H', c, cl, fp, rfl⟩ := hC'
        exact (ex_var 10).int
    rw [outs_data] at hv4
    have g14 := g13.trans g4
    have WA4 := WA.mono g14
    have hr4 := hr'.mono g14
    -- outside = [..]
    refine ss_cons (s_setLc 5 g4.tk (own := [("room", 11)]) (pat := .nm 11) (xs := rangeD W.m) (outs := oI fun i => !decide (i ∈ R))
      (ei_range rfl rg (EV.to (ev_len rfl X.ln (ev_rooms X.T (ex_var 0) WA4) sq_bnd) (d' := .int (W.m : Int)) (by rw [List.length_map]; rfl)) (by omega)) (by rw [rangeD_places]; unfold iD places; rw [List.length_map, List.length_map, List.length_range]; omega) rfl scCheck.nd (blk_by (N := nCheck) (sc := defScope sCheck) (by decide +kernel))
      (eg_bn scCheck.nd) (fun d hd => True.intro) ?_ ?_ fun v5 H5 g5 hv5 => ?_)
    · intro d hd d' hd'
      rw [rangeD_places] at hd
      obtain ⟨i, _, rfl⟩ := List.mem_map.mp hd
      exact oI_lf hd'
    · intro d hd H5' σ2 g5' hput
      rw [rangeD_places] at hd
      obtain ⟨i, _, rfl⟩ := List.mem_map.mp hd
      obtain ⟨u5, rfl, hu5⟩ := hput
      rw [hu5.int_eq]
      have hz5 := hr4.mono g5'
      refine ⟨rfl, item_if (fun C' hC' => ?_) fun hb C' hC' => ?_⟩
      · obtain ⟨s', H', c, cl, fp, rfl⟩ := hC'
        exact et_cmp (co_notInI (.inr rfl)) (ex_var 11).int (ev_var 3 (hd := hz5))
      · obtain ⟨s', H', c, cl, fp, rfl⟩ := hC'
        exact (ex_var 11).int
    rw [outs_data] at hv5
    have g15 := g14.trans g5
    have WA5 := WA.mono g15
    have ha5 := ha.mono g15
    have hr5 := hr'.mono g15
    have hoo := hv4.mono g5
    have lo1 := outs_len W.n A1
    have lo2 := outs_len W.m R
    -- low_in
    refine ss_cons (s_set 6 scCheck.nd (EV.go g5.tk (EVP.int (n := sm A1 (fun r => W.alo r.toNat)) (evp_gen1 .sum (k := 0) (N := [".0", "wants", "asker"]) (fr := ["wants"]) (js := [0]) (pat := .nm 2) (xs := iD A1) (outs := oN fun r => .int (W.alo r.toNat))
      (hr.mono (by decide)) rfl X.sm (gtxt (defScope sCheck) TB (by decide +kernel)) hPC (ei_tup (ev_var 2 (hd := ha5))) (eg_gn (by decide +kernel) rfl rfl) (fun _ _ => True.intro) ?_ (fun σ => ∃ a, σ = [none, some (.ref p), a]) ⟨none, rfl⟩ ?_ ?_)) fun v6 H6 g6 hv6 => ?_))
    · intro d hd d' hd'
      obtain ⟨r, _, rfl⟩ := List.mem_map.mp hd
      cases hd'
      exact .inr ⟨_, rfl⟩
    · rintro d hd H6 σ1 σ2 g6 ⟨a1, rfl⟩ ⟨w1, rfl, z1⟩
      obtain ⟨r, hrm, rfl⟩ := List.mem_map.mp hd
      rw [z1.int_eq]
      refine ⟨⟨_, rfl⟩, item_all fun C' hC' => ?_⟩
      obtain ⟨A', s', H', cc, code, fp, pn, hA', rfl⟩ := hC'
      exact ev_ix (ev_ix (ev_askers X.T (ex_var 1) (WA5.mono g6)) sq_bnd (ex_var 2).int (Int.toNat_of_nonneg (sd.ia r hrm).1).symm (askers_at ok (sd.ia r hrm))) (.inr rfl) ev_int (k := 0) rfl rfl
    · have sm2 := small_of (ks := A1.map fun r => W.alo r.toNat) (fun k hk => by
        obtain ⟨r, hrm, rfl⟩ := List.mem_map.mp hk
        have h5 := sd.ia r hrm
        have h3 := ok.ab r.toNat (by omega)
        have h4 := ahi_le sm_ r.toNat
        omega) (by rw [List.length_map]; omega)
      have := k_sum (ys := (iD A1).filterMap (oN fun r => .int (W.alo r.toNat))) (ks := A1.map fun r => W.alo r.toNat) (by rw [fmN, List.map_map]; rfl) sm2.1 sm2.2
      rw [← sm_sum] at this
      exact this
    rw [hv6.int_eq]
    have g16 := g15.trans g6
    have WA6 := WA.mono g16
    have hout6 := hv5.mono g6
    -- low_out
    refine ss_cons (s_set 7 scCheck.nd (EV.go g6.tk (EVP.int (n := sm (outs W.m R) (fun r => W.rlo r.toNat)) (evp_gen1 .sum (k := 0) (N := [".0", "wants", "room"]) (fr := ["wants"]) (js := [0]) (pat := .nm 2) (xs := iD (outs W.m R)) (outs := oN fun r => .int (W.rlo r.toNat))
      (hr.mono (by decide)) rfl X.sm (gtxt (defScope sCheck) TB (by decide +kernel)) hPC (ei_list (ev_var 5 (hd := hout6))) (eg_gn (by decide +kernel) rfl rfl) (fun _ _ => True.intro) ?_ (fun σ => ∃ a, σ = [none, some (.ref p), a]) ⟨none, rfl⟩ ?_ ?_)) fun v7 H7 g7 hv7 => ?_))
    · intro d hd d' hd'
      obtain ⟨r, _, rfl⟩ := List.mem_map.mp hd
      cases hd'
      exact .inr ⟨_, rfl⟩
    · rintro d hd H6 σ1 σ2 g6 ⟨a1, rfl⟩ ⟨w1, rfl, z1⟩
      obtain ⟨r, hrm, rfl⟩ := List.mem_map.mp hd
      rw [z1.int_eq]
      refine ⟨⟨_, rfl⟩, item_all fun C' hC' => ?_⟩
      obtain ⟨A', s', H', cc, code, fp, pn, hA', rfl⟩ := hC'
      exact ev_ix (ev_ix (ev_rooms X.T (ex_var 1) (WA6.mono g6)) sq_bnd (ex_var 2).int (Int.toNat_of_nonneg (outs_in r hrm).1).symm (rooms_at (outs_in r hrm))) (.inr rfl) ev_int (k := 0) rfl rfl
    · have sm2 := small_of (ks := (outs W.m R).map fun r => W.rlo r.toNat) (fun k hk => by
        obtain ⟨r, hrm, rfl⟩ := List.mem_map.mp hk
        have h5 := outs_in r hrm
        have h3 := ok.rb r.toNat (by omega)
        have h4 := rhi_le sm_ r.toNat
        omega) (by rw [List.length_map]; omega)
      have := k_sum (ys := (iD (outs W.m R)).filterMap (oN fun r => .int (W.rlo r.toNat))) (ks := (outs W.m R).map fun r => W.rlo r.toNat) (by rw [fmN, List.map_map]; rfl) sm2.1 sm2.2
      rw [← sm_sum] at this
      exact this
    rw [hv7.int_eq]
    have g17 := g16.trans g7
    have WA7 := WA.mono g17
    have ha7 := ha.mono g17
    have hr7 := hr'.mono g17
    have hout7 := hout6.mono g7
    have hoo7 := hoo.mono (g6.trans g7)
    -- high_in
    refine ss_cons (s_set 8 scCheck.nd (EV.go g7.tk (ev_add (EVP.int (n := sm R (fun r => W.rhi r.toNat)) (evp_gen1 .sum (k := 0) (N := [".0", "wants", "room"]) (fr := ["wants"]) (js := [0]) (pat := .nm 2) (xs := iD R) (outs := oN fun r => .int (W.rhi r.toNat))
      (hr.mono (by decide)) rfl X.sm (gtxt (defScope sCheck) TB (by decide +kernel)) hPC (ei_tup (ev_var 3 (hd := hr7))) (eg_gn (by decide +kernel) rfl rfl) (fun _ _ => True.intro) ?_ (fun σ => ∃ a, σ = [none, some (.ref p), a]) ⟨none, rfl⟩ ?_ ?_)) (ev_linked rfl rfl rfl X Z (k := 0) (hr.mono (by decide)) hPL WA7 sm_ (ex_var 0) (ev_var 2 (hd := ha7)) (.inr rfl) (ev_var 5 (hd := hout7)) (.inl rfl) sd.ia (by omega))) fun v8 H8 g8 hv8 => ?_))
    · intro d hd d' hd'
      obtain ⟨r, _, rfl⟩ := List.mem_map.mp hd
      cases hd'
      exact .inr ⟨_, rfl⟩
    · rintro d hd H6 σ1 σ2 g6 ⟨a1, rfl⟩ ⟨w1, rfl, z1⟩
      obtain ⟨r, hrm, rfl⟩ := List.mem_map.mp hd
      rw [z1.int_eq]
      refine ⟨⟨_, rfl⟩, item_all fun C' hC' => ?_⟩
      obtain ⟨A', s', H', cc, code, fp, pn, hA', rfl⟩ := hC'
      exact ev_ix (ev_ix (ev_rooms X.T (ex_var 1) (WA7.mono g6)) sq_bnd (ex_var 2).int (Int.toNat_of_nonneg (sd.ir r hrm).1).symm (rooms_at (sd.ir r hrm))) (.inr rfl) ev_int (k := 1) rfl rfl
    · have sm2 := small_of (ks := R.map fun r => W.rhi r.toNat) (fun k hk => by
        obtain ⟨r, hrm, rfl⟩ := List.mem_map.mp hk
        have h5 := sd.ir r hrm
        have h3 := ok.rb r.toNat (by omega)
        have h4 := rhi_le sm_ r.toNat
        omega) (by rw [List.length_map]; omega)
      have := k_sum (ys := (iD R).filterMap (oN fun r => .int (W.rhi r.toNat))) (ks := R.map fun r => W.rhi r.toNat) (by rw [fmN, List.map_map]; rfl) sm2.1 sm2.2
      rw [← sm_sum] at this
      exact this
    rw [hv8.int_eq]
    have g18 := g17.trans g8
    have WA8 := WA.mono g18
    have ha8 := ha.mono g18
    have hout8 := hout7.mono g8
    have hoo8 := hoo7.mono g8
    -- high_out
    refine ss_cons (s_set 9 scCheck.nd (EV.go g8.tk (ev_add (EVP.int (n := sm (outs W.n A1) (fun r => W.ahi r.toNat)) (evp_gen1 .sum (k := 0) (N := [".0", "wants", "asker"]) (fr := ["wants"]) (js := [0]) (pat := .nm 2) (xs := iD (outs W.n A1)) (outs := oN fun r => .int (W.ahi r.toNat))
      (hr.mono (by decide)) rfl X.sm (gtxt (defScope sCheck) TB (by decide +kernel)) hPC (ei_list (ev_var 4 (hd := hoo8))) (eg_gn (by decide +kernel) rfl rfl) (fun _ _ => True.intro) ?_ (fun σ => ∃ a, σ = [none, some (.ref p), a]) ⟨none, rfl⟩ ?_ ?_)) (ev_linked rfl rfl rfl X Z (k := 0) (hr.mono (by decide)) hPL WA8 sm_ (ex_var 0) (ev_var 2 (hd := ha8)) (.inr rfl) (ev_var 5 (hd := hout8)) (.inl rfl) sd.ia (by omega))) fun v9 H9 g9 hv9 => ?_))
    · intro d hd d' hd'
      obtain ⟨r, _, rfl⟩ := List.mem_map.mp hd
      cases hd'
      exact .inr ⟨_, rfl⟩
    · rintro d hd H6 σ1 σ2 g6 ⟨a1, rfl⟩ ⟨w1, rfl, z1⟩
      obtain ⟨r, hrm, rfl⟩ := List.mem_map.mp hd
      rw [z1.int_eq]
      refine ⟨⟨_, rfl⟩, item_all fun C' hC' => ?_⟩
      obtain ⟨A', s', H', cc, code, fp, pn, hA', rfl⟩ := hC'
      exact ev_ix (ev_ix (ev_askers X.T (ex_var 1) (WA8.mono g6)) sq_bnd (ex_var 2).int (Int.toNat_of_nonneg (outs_in r hrm).1).symm (askers_at ok (outs_in r hrm))) (.inr rfl) ev_int (k := 1) rfl rfl
    · have sm2 := small_of (ks := (outs W.n A1).map fun r => W.ahi r.toNat) (fun k hk => by
        obtain ⟨r, hrm, rfl⟩ := List.mem_map.mp hk
        have h5 := outs_in r hrm
        have h3 := ok.ab r.toNat (by omega)
        have h4 := ahi_le sm_ r.toNat
        omega) (by rw [List.length_map]; omega)
      have := k_sum (ys := (iD (outs W.n A1)).filterMap (oN fun r => .int (W.ahi r.toNat))) (ks := (outs W.n A1).map fun r => W.ahi r.toNat) (by rw [fmN, List.map_map]; rfl) sm2.1 sm2.2
      rw [← sm_sum] at this
      exact this
    rw [hv9.int_eq]
    have g19 := g18.trans g9
    -- if low_in <= high_in and low_out <= high_out: raise
    refine ss_cons (s_if (ET.go (B := B) g9.tk (et_and (et_cmp co_le (ex_var 6).int (ex_var 8).int) fun _ => et_cmp co_le (ex_var 7).int (ex_var 9).int) fun H10 g10 => ?_))
    refine ⟨fun z10 => ss_cons (s_raise rfl (takes_of rfl rfl rfl rfl) bp rfl (kbad ?_ _ (g19.trans g10))), fun z10 => ss_nil ?_⟩
    · unfold checkB
      rw [z10]
      rfl
    · refine ss_cons (s_ret (EV.go (B := B) g10.tk ev_bl fun v11 H11 g11 hv11 => by
        rw [hv11.bl_eq]
        refine kok ?_ _ (g19.trans (g10.trans g11))
        unfold checkB
        rw [z10]
        rfl))
end
end K22
end
section
set_option Elab.async false
set_option linter.all false
set_option maxRecDepth 100000
set_option maxHeartbeats 4000000
/-! K22DictT: dict of a list of pairs whose keys are pairs of ints. -/
namespace K22
open PySem PySem.Spec PyProof.Rows L2 NdefX Pm
def mergeG {κ : Type} [DecidableEq κ] : List (κ × V) → List (κ × V) → List (κ × V)
  | acc, [] => acc
  | acc, p :: ps => mergeG (putK acc p.1 p.2) ps
theorem mergeG_len {κ : Type} [DecidableEq κ] : ∀ (ps acc : List (κ × V)), (mergeG acc ps).length ≤ acc.length + ps.length
  | [], acc => by rw [mergeG]; simp
  | p :: ps, acc => by
    rw [mergeG, List.length_cons]
    have h1 := mergeG_len ps (putK acc p.1 p.2)
    have h2 := length_putK acc p.1 p.2
    omega
theorem KT.merge {H : Hp} : ∀ {ts : List (List Key × Addr × V)} {trs xs : List (List Key × Addr × Value)} {kvs : List (List Key × V)}, Paired (fun (t : List Key × Addr × V) (q : List Key × Addr × Value) => t.1 = q.1 ∧ t.2.1 = q.2.1 ∧ RelV t.2.2 q.2.2 ∧ H t.2.1 = some (.tup (t.1.map kV))) ts trs → KT H kvs xs →
    KT H (mergeG kvs (ts.map fun t => (t.1, t.2.2))) (storedAllH xs trs)
  | [], [], _, _, _, h => h
  | t :: ts, q :: trs, xs, kvs, .cons ⟨e1, e2, r, e⟩ rr, h => by
    rw [List.map_cons, mergeG]
    show KT H _ (storedAllH (storedH xs q.1 q.2.1 q.2.2) trs)
    refine KT.merge rr ?_
    rw [← e1, ← e2]
    exact KT.put h t.1 e r
theorem pairs_ofT {X : Cx} {pins : List (Addr × Obj)} {σ : L2.St} {H : Hp} {s : Shared} (I : Inv X pins σ H s) : ∀ {ps : List Addr} {ts : List (List Key × Addr × V)}, Paired (fun p (t : List Key × Addr × V) => SqT X.K H p [.ref t.2.1, t.2.2] ∧ H t.2.1 = some (.tup (t.1.map kV))) ps ts →
    ∃ trs : List (List Key × Addr × Value), Paired (fun (t : List Key × Addr × V) (q : List Key × Addr × Value) => t.1 = q.1 ∧ t.2.1 = q.2.1 ∧ RelV t.2.2 q.2.2 ∧ H t.2.1 = some (.tup (t.1.map kV))) ts trs ∧ trs.length = ps.length ∧ ∀ (j : Nat) (q : List Key × Addr × Value), trs[j]? = some q → ∃ b : Addr, ps[j]? = some b ∧ s.heap.IsTuple b #[.ref q.2.1, q.2.2]
  | _, _, .nil => ⟨[], .nil, rfl, fun j q e => by simp at e⟩
  | _, _, .cons (a := p) (b := t) ⟨h, hk⟩ tl => by
    obtain ⟨trs, r, hl, hp⟩ := pairs_ofT I tl
    obtain ⟨its, rv, ht, _⟩ := I.tuple h
    obtain ⟨u, y, ei, ru, ry⟩ := vals2 rv
    subst ei
    obtain rfl : u = Value.ref t.2.1 := ru
    refine ⟨(t.1, t.2.1, y) :: trs, .cons ⟨rfl, rfl, ry, hk⟩ r, by rw [List.length_cons, List.length_cons, hl], fun j q e => ?_⟩
    cases j with
    | zero =>
      have e' : (t.1, t.2.1, y) = q := Option.some.inj e
      subst e'
      exact ⟨p, rfl, ht⟩
    | succ j =>
      obtain ⟨b, e1, e2⟩ := hp j q (by simpa using e)
      exact ⟨b, by simpa using e1, e2⟩
theorem paired_keys {H : Hp} {ts : List (List Key × Addr × V)} {trs : List (List Key × Addr × Value)} (h : Paired (fun (t : List Key × Addr × V) (q : List Key × Addr × Value) => t.1 = q.1 ∧ t.2.1 = q.2.1 ∧ RelV t.2.2 q.2.2 ∧ H t.2.1 = some (.tup (t.1.map kV))) ts trs) : ∀ q ∈ trs, H q.2.1 = some (.tup (q.1.map kV)) := by
  induction h with
  | nil => exact fun q hq => nomatch hq
  | @cons t q ts trs h _ ih =>
    intro x hx
    rcases List.mem_cons.mp hx with e | hx
    · subst e
      obtain ⟨e1, e2, _, e3⟩ := h
      rw [← e1, ← e2]; exact e3
    · exact ih x hx
/-- dict(xs) of a list of pairs (key, value), the keys tuples -/
theorem call_dictT {X : Cx} (hcalm : X.calm = true) (hu : X.A.units + 4 < cLine) : CallR X (.type "dict") (fun xs H Q => ∃ (a : Addr) (ps : List Addr) (ts : List (List Key × Addr × V)), xs = [.ref a] ∧ SqL X.K H a (ps.map V.ref) ∧ Paired (fun p (t : List Key × Addr × V) => SqT X.K H p [.ref t.2.1, t.2.2] ∧ H t.2.1 = some (.tup (t.1.map kV))) ps ts ∧
    ∀ p, H p = none → Q (.ref p) (upd H p (.dT (mergeG [] (ts.map fun t => (t.1, t.2.2)))))) := by
  intro pins s σ H xs us Q I r q
  obtain ⟨a, ps, ts, ex, hq, hp, q⟩ := q
  subst ex
  obtain ⟨u, eu, rx⟩ := vals1 r
  subst eu
  cases rx
  obtain ⟨its, rv, pl, hz⟩ := I.list hq
  have ei := refs_at rv
  subst ei
  rw [List.length_map] at hz
  obtain ⟨trs, rel, hl, hpr⟩ := pairs_ofT I hp
  obtain ⟨o, n, ho, hc, hd, hdat⟩ := pl
  have keys := paired_keys rel
  have PA := PairArg.list (prog := X.prog) (w := X.w) a (ps.map Value.ref).toArray (fun j => ps.getD j 0) (trs.map fun q => (Value.ref q.2.1, q.2.2))
  rw [List.length_map] at PA
  refine call_dict_pairsH (knd := tupleKind (mixKind X.prog X.w)) (ps := trs) PA (I.ok.hd hcalm) (by show X.A.units + 1 + 1 < cLine; omega) ⟨⟨o, n, ho, hc, hd, hdat⟩, by simp [hl], fun j k v e => ?_⟩ ⟨rfl, fun i key v e => ?_⟩ (fun h' hk x hx => ?_) (by omega) fun h' tk hd' k => ?_
  · rw [List.getElem?_map] at e
    obtain ⟨q', e1, e2⟩ := Option.map_eq_some_iff.mp e
    cases e2
    obtain ⟨b, z1, z2⟩ := hpr j q' e1
    have eb : ps.getD j 0 = b := by rw [List.getD_eq_getElem?_getD, z1]; rfl
    show (List.map Value.ref ps).toArray[j]? = some (Value.ref (ps.getD j 0)) ∧ PairAt s.heap (ps.getD j 0) (Value.ref q'.2.1) q'.2.2
    rw [eb]
    exact ⟨by simp [z1], .inl z2⟩
  · have e : (trs.map fun q => (Value.ref q.2.1, q.2.2))[i]? = some (key, v) := e
    rw [List.getElem?_map] at e
    obtain ⟨q', e1, e2⟩ := Option.map_eq_some_iff.mp e
    cases e2
    exact ⟨q'.1, q'.2.1, e1, rfl⟩
  · obtain ⟨o1, items, n1, k1, k2, k3, k4⟩ := key_of I.hok (keys x hx)
    exact ⟨o1, items, n1, hk _ _ (Nat.ne_of_lt (Heap.lt_size k1)) (fun z => nomatch z) k1, k2, k3, k4⟩
  · have hm : (s.heap.objs.size == sysModules) = false := beq_eq_false_iff_ne.mpr (Nat.ne_of_gt I.big)
    have fresh := I.hok.fresh (Nat.le_refl _)
    have kt : KT H (mergeG [] (ts.map fun t => (t.1, t.2.2))) (storedAllH [] trs) := KT.merge rel .nil
    have hlen : (mergeG [] (ts.map fun t => (t.1, t.2.2))).length ≤ sizeLine := by
      have h1 := mergeG_len (ts.map fun t => (t.1, t.2.2)) []
      rw [List.length_map, List.length_nil, rel.length] at h1
      omega
    obtain ⟨o2, es, ep, y1, y2, y3, y4, y5, y6⟩ := hd'
    have kt' : KT (upd H s.heap.objs.size (.dT (mergeG [] (ts.map fun t => (t.1, t.2.2))))) (mergeG [] (ts.map fun t => (t.1, t.2.2))) (storedAllH [] trs) := kt.keeps fun b ys e => by
      rw [upd_ne (ne_of_none e fresh)]; exact e
    exact ⟨.ref s.heap.objs.size, upd H s.heap.objs.size (.dT (mergeG [] (ts.map fun t => (t.1, t.2.2)))), I.laid (t' := tk) (fun b o e => k b o (fun z => nomatch z) e) (Nat.le_refl _) (show ObjOk X.prog X.w _ _ _ (.dT _) from ⟨hlen, hm, storedAllH [] trs, kt', o2, es, ep, y1, y2, y3, y4, y6⟩), rfl, q _ fresh⟩
/-! ### of pairs -/
def keyP (p : Int × Int) : List Key := pk p.1 p.2
def onesT (l : List (Int × Int)) : List (List Key × V) := l.map fun p => (keyP p, V.int 1)
def dedP : List (Int × Int) → List (Int × Int) → List (Int × Int)
  | acc, [] => acc
  | acc, r :: rs => if r ∈ acc then dedP acc rs else dedP (acc ++ [r]) rs
theorem keyP_inj {p q : Int × Int} (h : keyP p = keyP q) : p = q := by
  unfold keyP pk at h
  simp only [List.cons.injEq, Sum.inl.injEq, and_true] at h
  exact Prod.ext h.1 h.2
theorem onesT_is (l : List (Int × Int)) (p : Int × Int) : (valV (onesT l) (keyP p)).isSome = decide (p ∈ l) := by
  rw [← valV_any]
  unfold onesT
  rw [List.any_map, Bool.eq_iff_iff, List.any_eq_true, decide_eq_true_iff]
  constructor
  · rintro ⟨x, hx, h⟩
    have := keyP_inj (of_decide_eq_true h)
    exact this ▸ hx
  · intro h
    exact ⟨p, h, by simp⟩
theorem onesT_put {l : List (Int × Int)} {p : Int × Int} : putK (onesT l) (keyP p) (V.int 1) = onesT (if p ∈ l then l else l ++ [p]) := by
  unfold putK
  rw [valV_any, onesT_is]
  by_cases h : p ∈ l
  · rw [if_pos (decide_eq_true h), if_pos h]
    unfold onesT
    rw [List.map_map]
    refine List.map_congr_left fun a _ => ?_
    show (if keyP a = keyP p then (keyP a, V.int 1) else (keyP a, V.int 1)) = _
    split <;> rfl
  · rw [if_neg (by simpa using h), if_neg h]
    unfold onesT
    rw [List.map_append]
    rfl
theorem mergeG_ded : ∀ (rs acc : List (Int × Int)), mergeG (onesT acc) (onesT rs) = onesT (dedP acc rs)
  | [], acc => rfl
  | r :: rs, acc => by
    show mergeG (putK (onesT acc) (keyP r) (V.int 1)) (onesT rs) = _
    rw [onesT_put, dedP, mergeG_ded rs]
    split <;> rfl
theorem dedP_nodup : ∀ {rs acc : List (Int × Int)}, (acc ++ rs).Nodup → dedP acc rs = acc ++ rs
  | [], acc, _ => by rw [dedP, List.append_nil]
  | r :: rs, acc, h => by
    rw [dedP]
    have h1 : r ∉ acc := fun z => (List.nodup_append.mp h).2.2 r z r List.mem_cons_self rfl
    have e : acc ++ r :: rs = (acc ++ [r]) ++ rs := by simp
    rw [if_neg h1, e]
    exact dedP_nodup (e ▸ h)
theorem dedP_len : ∀ {rs acc : List (Int × Int)}, acc.Nodup → (dedP acc rs).length ≤ acc.length + rs.length ∧ ((dedP acc rs).length = acc.length + rs.length → (acc ++ rs).Nodup)
  | [], acc, h => ⟨Nat.le_refl _, fun _ => by rw [List.append_nil]; exact h⟩
  | r :: rs, acc, h => by
    rw [dedP]
    by_cases c : r ∈ acc
    · rw [if_pos c]
      have := (dedP_len (rs := rs) h).1
      rw [List.length_cons]
      exact ⟨by omega, fun z => by omega⟩
    · rw [if_neg c]
      have h1 : (acc ++ [r]).Nodup := by
        rw [List.nodup_append]
        refine ⟨h, by simp, fun q hq q' hq' e => ?_⟩
        rw [List.mem_singleton.mp hq'] at e
        exact c (e ▸ hq)
      have h2 := dedP_len (rs := rs) h1
      have e : acc ++ r :: rs = (acc ++ [r]) ++ rs := by simp
      rw [List.length_append, List.length_singleton] at h2
      rw [List.length_cons, e]
      exact ⟨by omega, fun z => h2.2 (by omega)⟩
theorem dedP_iff (l : List (Int × Int)) : decide (((dedP [] l).length : Int) = (l.length : Int)) = decide l.Nodup := by
  rw [Bool.eq_iff_iff, decide_eq_true_iff, decide_eq_true_iff]
  have h := dedP_len (rs := l) (acc := []) List.nodup_nil
  simp only [List.length_nil, Nat.zero_add, List.nil_append] at h
  constructor
  · intro e
    exact h.2 (by omega)
  · intro nd
    rw [dedP_nodup (by simpa using nd), List.nil_append]
def onePD (p : Int × Int) : PyData := .tuple [pD p, .int 1]
theorem onesT_at {K : PySem.W.Frag} {X : List Addr} {H : Hp} : ∀ {vs : List V} {rs : List (Int × Int)}, Iss X H vs (rs.map onePD) → ∃ (ps : List Addr) (ts : List (List Key × Addr × V)), vs = ps.map V.ref ∧ Paired (fun p (t : List Key × Addr × V) => SqT K H p [.ref t.2.1, t.2.2] ∧ H t.2.1 = some (.tup (t.1.map kV))) ps ts ∧ (ts.map fun t => (t.1, t.2.2)) = onesT rs
  | [], [], _ => ⟨[], [], rfl, .nil, rfl⟩
  | [], r :: rs, h => by have := h.1; simp at this
  | v :: vs, [], h => by have := h.1; simp at this
  | v :: vs, r :: rs, h => by
    obtain ⟨p, x1, x2, rfl, e, h1, h2⟩ := (h.2 0 v (onePD r) rfl rfl).two
    obtain ⟨t, y1, y2, rfl, e', k1, k2⟩ := Is.two h1
    rw [k1.int_eq, k2.int_eq] at e'
    rw [h2.int_eq] at e
    obtain ⟨ps, ts, z1, z2, z3⟩ := onesT_at (K := K) (vs := vs) (rs := rs) ⟨by have := h.1; simpa using this, fun i w d h1 h2 => h.2 (i + 1) w d h1 h2⟩
    exact ⟨p :: ps, (keyP r, t, V.int 1) :: ts, by rw [z1]; rfl, .cons ⟨.inl (.inl e), e'⟩ z2, by rw [List.map_cons, z3]; rfl⟩
/-- len(dict([(pair, 1) ..])) -/
theorem ev_lenDictP {B : Amb} {C : Cx} {e : Expr} {σ : L2.St} {H : Hp} {p1 p2 p3 pos : Pos} {rs : List (Int × Int)} (hc : C.calm = true) (hu : C.A.units + 4 < cLine) (hg : Gl C "dict") (hm : C.mg "dict" = none) (hg2 : Gl C "len") (hm2 : C.mg "len" = none) (he : EV B C e σ H (.list (rs.map onePD)))
    (hs : starEach [e] C.env = (false, eval e C.env) :: starEach [] C.env := by rfl) (hs2 : starEach [.Call (.Name "dict" p1) [e] [] p2] C.env = (false, eval (.Call (.Name "dict" p1) [e] [] p2) C.env) :: starEach [] C.env := by rfl) :
    EV B C (.Call (.Name "len" p3) [.Call (.Name "dict" p1) [e] [] p2] [] pos) σ H (.int ((dedP [] rs).length : Int)) := fun H1 g Q k =>
  of_pe (pe_callB call_len_dT hg2 hm2 boot_len (pa_cons (pe_callTy (call_dictT hc hu) hg hm boot_dict (pa_cons pe_S pa_nil hs) (he := hs)) pa_nil hs2) (he := hs2)) (he H1 g _ fun v H2 g2 hv => by
    obtain ⟨a, vs, rfl, ea, _, hi⟩ := hv.list_at
    obtain ⟨ps, ts, rfl, hp, et⟩ := onesT_at (K := C.K) hi
    refine ⟨a, ps, ts, rfl, .inl (.inl ea), hp, fun p hn => ?_⟩
    rw [et]
    have e1 : mergeG [] (onesT rs) = onesT (dedP [] rs) := mergeG_ded rs []
    rw [e1]
    refine ⟨p, _, rfl, upd_same, ?_⟩
    have e2 : (onesT (dedP [] rs)).length = (dedP [] rs).length := by unfold onesT; rw [List.length_map]
    rw [e2]
    exact k _ _ (g2.trans (.new g2.tk hn)) (.int _))
end K22
end
section
set_option Elab.async false
set_option linter.all false
set_option maxRecDepth 100000
set_option maxHeartbeats 4000000
/-! K22Keeps: keeps. -/
namespace K22
open PySem PySem.Spec PyProof.Rows L2 NdefX Pm
abbrev sKeeps : Stmt := top 21
/-- the scope of the comprehension of an assignment -/
def lcScope : Stmt → Scope
  | .Assign _ (.ListComp _ _ sc _) _ => sc
  | _ => default
/-- a block within a block: its free names are cells there -/
def recell (sc : Scope) : Scope := { sc with names := sc.names.map fun (n, k) => if (k == NameKind.free) = true then (n, NameKind.cell) else (n, k) }
theorem blk_as {N : List Str} {sc sc' scope : Scope} {own : List (Str × Nat)} (h : blkB N sc scope own = true) (e : sc' = sc) : BlkOk N sc' scope own := e ▸ blk_by h
/-- what keeps tells -/
def inRows (W : Wt) (p : Int × Int) : Bool := !(decide (0 ≤ p.1) && decide (p.1 < (W.n : Int))) || !decide (p.2 ∈ W.row p.1.toNat)
def goodA (W : Wt) (l : Lot) : Bool := (List.range W.n).all fun a => decide (W.alo a ≤ cntA l (a : Int)) && decide (cntA l (a : Int) ≤ W.ahi a)
def goodR (W : Wt) (l : Lot) : Bool := (List.range W.m).all fun r => decide (W.rlo r ≤ cntR l (r : Int)) && decide (cntR l (r : Int) ≤ W.rhi r)
def keepsB (W : Wt) (l : Lot) : Bool := decide l.Nodup && !l.any (inRows W) && (goodA W l && goodR W l)
def oA (k : Int) : PyData → Option PyData
  | .tuple [.int a, .int _] => if decide (a = k) = true then some (.int 1) else none
  | _ => none
def oB (k : Int) : PyData → Option PyData
  | .tuple [.int _, .int a] => if decide (a = k) = true then some (.int 1) else none
  | _ => none
theorem oA_len (l : Lot) (k : Int) : (((l.map pD).filterMap (oA k)).length : Int) = cntA l k := by
  rw [fm_if (enc := pD) (outs := oA k) (f := fun _ => .int 1) (p := fun p => decide (p.1 = k)) (fun _ => rfl), List.length_map]
  rfl
theorem oB_len (l : Lot) (k : Int) : (((l.map pD).filterMap (oB k)).length : Int) = cntR l k := by
  rw [fm_if (enc := pD) (outs := oB k) (f := fun _ => .int 1) (p := fun p => decide (p.2 = k)) (fun _ => rfl), List.length_map]
  rfl
def oPair1 : PyData → Option PyData
  | .tuple ds => some (.tuple [.tuple ds, .int 1])
  | _ => none
/-- low <= counts[k] <= high -/
def oLH (f : Int → Int) : PyData → Option PyData
  | .tuple [.int a, .tuple [.int l, .int h]] => some (.bool (decide (l ≤ f a) && decide (f a ≤ h)))
  | _ => none
theorem lh_data (ps : List (Int × Int)) (f : Int → Int) : (enumD (ps.map pD)).filterMap (oLH f) = ((List.range ps.length).map fun i : Nat => decide ((ps.getD i (0, 0)).1 ≤ f (i : Int)) && decide (f (i : Int) ≤ (ps.getD i (0, 0)).2)).map PyData.bool := by
  rw [enumD_range pD ps (0, 0), fm_map (enc := fun i : Nat => PyData.tuple [.int (i : Int), pD (ps.getD i (0, 0))]) (outs := oLH f) (f := fun i : Nat => .bool (decide ((ps.getD i (0, 0)).1 ≤ f (i : Int)) && decide (f (i : Int) ≤ (ps.getD i (0, 0)).2))) (fun i => rfl), List.map_map]
  rfl
theorem cnt_at {k : Nat} {f : Int → Int} {i : Nat} (h : i < k) : (iD ((places k).map f))[i]? = some (.int (f (i : Int))) := by
  unfold iD places
  rw [List.map_map, List.map_map, List.getElem?_map, List.getElem?_range h]
  rfl
section
variable {P : Program} {w : World} {K : PySem.W.Frag} {mg : Str → Option Value} {base : Heap} {Cw cBS : Addr}
def spKeeps (Cw PC : Addr) : Sp := fun vs H Q _ => ∃ (B : Amb) (p : Addr) (vl : V) (W : Wt) (l : Lot), vs = [.ref p, vl] ∧ TK B H ∧ PC ∈ B.TG ∧ WantAt B.X Cw H p W ∧ W.Ok ∧ Small W ∧ Is B.X H vl (lotD l) ∧ l.length ≤ 1000 ∧
  ∀ H', Gr B H H' → Q (.bl (keepsB W l)) H'
abbrev nKeeps : List Str := ["wants", "pairs", "counts", "taken", "good", "pair", "one", "room", "asker"]
theorem scKeeps : FnScope nKeeps ["wants", "pairs"] (defScope sKeeps) := ⟨rfl, rfl, rfl, by decide +kernel, rfl, by decide +kernel, by decide +kernel⟩
abbrev scC : Scope := lcScope ((defBody sKeeps).getD 2 (.Pass ⟨0, 0, 0, 0⟩))
abbrev scT : Scope := lcScope ((defBody sKeeps).getD 3 (.Pass ⟨0, 0, 0, 0⟩))
theorem ok_keeps {f c PC : Addr} {fd : FuncData} (F : FunC K "keeps" "keeps" sKeeps f c fd) (TB : GxR.TabB base mg c PC) (X : WTx K mg Cw cBS) (rg : mg "range" = none) (en : mg "enumerate" = none) (al : mg "all" = none) : FnOk P w K mg base CX0 2 f fd ["wants", "pairs"] (spKeeps Cw PC) := by
  refine F.ok scKeeps (fun vs H Q E h => ?_) (fun A outer s H vs Q E hr h => ?_)
  · obtain ⟨B, p, vl, W, l, rfl, _⟩ := h
    rfl
  · obtain ⟨B, p, vl, W, l, rfl, tk, hPC, WA, ok, sm_, hl, ll, k⟩ := h
    have hu := hu_of hr
    have hu64 := hr.units
    have hu4 : (A.deeper (envOfC "keeps" (defScope sKeeps) s.heap.objs.size f (.ref c))).units + 4 < cLine := by omega
    have h1 := sm_.n
    have h2 := sm_.m
    have e1 : W.n = W.lists.length := rfl
    have e2 : W.m = W.rooms.length := rfl
    refine ⟨_, pss_S, ?_⟩
    -- if len(dict(..)) != len(pairs): return False
    refine ss_cons (s_if (ET.go (B := B) (b := !decide l.Nodup) tk (ET.to (et_cmp co_neI (ev_lenDictP (rs := l) rfl hu4 rfl X.di rfl X.ln (EV.to (ev_lc (own := [("pair", 5)]) (pat := .nm 5) (xs := l.map pD) (outs := oPair1)
      (ei_tup (ev_var 1 (hd := hl))) (by rw [List.length_map]; omega) rfl scKeeps.nd (blk_nf (N := nKeeps) (by decide +kernel)) (eg_bn scKeeps.nd) (fun d _ => True.intro) ?_ ?_) ?_)) (EV.to (ev_len rfl X.ln (ev_var 1 (hd := hl)) (.inr rfl)) (by rw [List.length_map]))) (by rw [dedP_iff])) fun H1 g1 => ?_))
    · intro d hd d' hd'
      obtain ⟨q, _, rfl⟩ := List.mem_map.mp hd
      cases hd'
      exact lf_pair (lf_pair (.int _) (.int _)) (.int _)
    · intro d hd H4 σ3 g4 hput
      obtain ⟨q, _, rfl⟩ := List.mem_map.mp hd
      obtain ⟨v', rfl, hv'⟩ := hput
      refine ⟨rfl, item_all fun C' hC' => ?_⟩
      obtain ⟨s', H', c, cl, fp, rfl⟩ := hC'
      exact ev_tup (ea_cons (ev_var 5 (hd := hv')) (ea_cons ev_int ea_nil)) (by show 2 ≤ sizeLine; decide)
    · exact congrArg PyData.list (fm_map (enc := pD) (outs := oPair1) (f := onePD) (fun a => rfl) l)
    refine ⟨fun z => ss_cons (s_ret (EV.go (B := B) g1.tk ev_bl fun v H2 g2 hv => by
      rw [hv.bl_eq]
      have : keepsB W l = false := by unfold keepsB; simp at z; simp [z]
      rw [← this]
      exact k _ (g1.trans g2))), fun z => ss_nil ?_⟩
    have nd : decide l.Nodup = true := by simpa using z
    have WA1 := WA.mono g1
    have hl1 := hl.mono g1
    -- if any(..): return False
    refine ss_cons (s_if (ET.go (B := B) (b := l.any (inRows W)) g1.tk (et_val (EVP.bool (evp_gen1 .any (k := 0) (N := [".0", "wants", "asker", "room"]) (fr := ["wants"]) (js := [0]) (pat := .two (.nm 2) (.nm 3)) (xs := l.map pD) (outs := oP fun x y => .bool (inRows W (x, y)))
        (hr.mono (by decide)) rfl X.an (gtxt (defScope sKeeps) TB (by decide +kernel)) hPC (ei_tup (ev_var 1 (hd := hl1))) (eg_gt (eg_gn (by decide +kernel) rfl rfl) (eg_gn (by decide +kernel) rfl rfl)) ?_ ?_ (fun σ => ∃ a b, σ = [none, some (.ref p), a, b]) ⟨none, none, rfl⟩ ?_ ?_))) fun H2 g2 => ?_))
    · intro d hd
      obtain ⟨q, _, rfl⟩ := List.mem_map.mp hd
      exact ⟨_, _, rfl, True.intro, True.intro⟩
    · intro d hd d' hd'
      obtain ⟨q, _, rfl⟩ := List.mem_map.mp hd
      cases hd'
      exact .inl ⟨_, rfl⟩
    · rintro d hd H6 σ1 σ2 g6 ⟨a1, b1, rfl⟩ ⟨d1, d2, σ3, ed, ⟨v1, rfl, z1⟩, ⟨v2, rfl, z2⟩⟩
      obtain ⟨q, hq, rfl⟩ := List.mem_map.mp hd
      cases ed
      rw [z1.int_eq, z2.int_eq]
      refine ⟨⟨_, _, rfl⟩, item_all fun C' hC' => ?_⟩
      obtain ⟨A', s', H', cc, code, fp, pn, hA, rfl⟩ := hC'
      refine ev_or (ev_not (ev_chain co_le co_lt ev_int (ex_var 2).int (EV.to (ev_len rfl X.ln (ev_lists X.T (ex_var 1) (WA1.mono g6)) sq_lists) (by rw [List.length_map]; rfl)))) fun hk => ?_
      have hin : 0 ≤ q.1 ∧ q.1 < (W.lists.length : Int) := by
        have hk : 0 ≤ q.1 ∧ q.1 < (W.n : Int) := by simpa using hk
        exact hk
      exact ev_cmp (co_notInI (.inr rfl)) (ex_var 3).int (ev_ix (ev_lists X.T (ex_var 1) (WA1.mono g6)) sq_lists (ex_var 2).int (Int.toNat_of_nonneg hin.1).symm (row_at hin))
    · have := k_any (bs := l.map (inRows W)) (ys := (l.map pD).filterMap (oP fun x y => .bool (inRows W (x, y)))) (by rw [fmP, List.map_map]; rfl)
      rw [List.any_map] at this
      exact this
    have g12 := g1.trans g2
    refine ⟨fun z => ss_cons (s_ret (EV.go (B := B) g2.tk ev_bl fun v H3 g3 hv => by
      rw [hv.bl_eq]
      have : keepsB W l = false := by unfold keepsB; rw [z]; simp
      rw [← this]
      exact k _ (g12.trans g3))), fun z2 => ss_nil ?_⟩
    have WA2 := WA.mono g12
    have hl2 := hl.mono g12
    -- counts = [..]
    refine ss_cons (s_set 2 scKeeps.nd (EV.go g2.tk (EV.to (ev_lc (own := [("asker", 8)]) (pat := .nm 8) (xs := rangeD W.n) (outs := oN fun i => .int (cntA l i))
      (ei_range rfl rg (EV.to (ev_len rfl X.ln (ev_lists X.T (ex_var 0) WA2) sq_lists) (d' := .int (W.n : Int)) (by rw [List.length_map]; rfl)) (by omega)) (by rw [rangeD_places]; unfold iD places; rw [List.length_map, List.length_map, List.length_range]; omega) rfl scKeeps.nd (blk_by (N := nKeeps) (sc := defScope sKeeps) (by decide +kernel))
      (eg_nm fun C' hC' => ?_) (fun d hd => True.intro) ?_ ?_) (congrArg PyData.list (show _ = iD ((places W.n).map (cntA l)) by rw [rangeD_places, fmN, iD, List.map_map]; rfl))) fun v3 H3 g3 hv3 => ?_))
    · obtain ⟨s', H', c, cl, fp, rfl⟩ := hC'
      exact pg_name scKeeps.nd rfl (.inr rfl) (.inl rfl)
    · intro d hd d' hd'
      rw [rangeD_places] at hd
      obtain ⟨i, _, rfl⟩ := List.mem_map.mp hd
      cases hd'
      exact .int _
    · intro d hd H5 σ2 g5 hput
      rw [rangeD_places] at hd
      obtain ⟨i, _, rfl⟩ := List.mem_map.mp hd
      obtain ⟨u5, rfl, hu5⟩ := hput
      rw [hu5.int_eq]
      have hl5 := hl2.mono g5
      refine ⟨rfl, item_all fun C' hC' => ?_⟩
      obtain ⟨s', H', c, cl, fp, rfl⟩ := hC'
      refine EV.to (ev_len rfl X.ln (ev_lc (own := [("one", 6), ("room", 7)]) (pat := .two (.nm 6) (.nm 7)) (xs := l.map pD) (outs := oA i)
        (ei_tup (ev_var 1 (hd := hl5))) (by rw [List.length_map]; omega) rfl scKeeps.nd (blk_as (N := nKeeps) (sc := recell scC) (by decide +kernel) rfl) (eg_bt rfl (eg_bn scKeeps.nd) (eg_bn scKeeps.nd)) ?_ ?_ ?_) (.inl rfl)) (congrArg PyData.int (oA_len l i))
      · intro d hd
        obtain ⟨q, _, rfl⟩ := List.mem_map.mp hd
        exact ⟨_, _, rfl, True.intro, True.intro⟩
      · intro d hd d' hd'
        obtain ⟨q, _, rfl⟩ := List.mem_map.mp hd
        have hd' : (if decide (q.1 = i) = true then some (PyData.int 1) else none) = some d' := hd'
        split at hd'
        · cases hd'; exact .int _
        · cases hd'
      · rintro d hd H6 σ3 g6 ⟨d1, d2, σ4, ed, ⟨w1, rfl, y1⟩, ⟨w2, rfl, y2⟩⟩
        obtain ⟨q, _, rfl⟩ := List.mem_map.mp hd
        cases ed
        rw [y1.int_eq, y2.int_eq]
        refine ⟨rfl, item_if (fun C' hC' => ?_) fun _ C' hC' => ?_⟩
        · obtain ⟨s'', H'', c', cl', fp', rfl⟩ := hC'
          exact et_cmp co_eqI (ex_var 6).int (ex_var 8).int
        · obtain ⟨s'', H'', c', cl', fp', rfl⟩ := hC'
          exact ev_int
    have g13 := g12.trans g3
    have WA3 := WA.mono g13
    have hl3 := hl.mono g13
    -- taken = [..]
    refine ss_cons (s_set 3 scKeeps.nd (EV.go g3.tk (EV.to (ev_lc (own := [("room", 7)]) (pat := .nm 7) (xs := rangeD W.m) (outs := oN fun i => .int (cntR l i))
      (ei_range rfl rg (EV.to (ev_len rfl X.ln (ev_rooms X.T (ex_var 0) WA3) sq_bnd) (d' := .int (W.m : Int)) (by rw [List.length_map]; rfl)) (by omega)) (by rw [rangeD_places]; unfold iD places; rw [List.length_map, List.length_map, List.length_range]; omega) rfl scKeeps.nd (blk_by (N := nKeeps) (sc := defScope sKeeps) (by decide +kernel))
      (eg_nm fun C' hC' => ?_) (fun d hd => True.intro) ?_ ?_) (congrArg PyData.list (show _ = iD ((places W.m).map (cntR l)) by rw [rangeD_places, fmN, iD, List.map_map]; rfl))) fun v4 H4 g4 hv4 => ?_))
    · obtain ⟨s', H', c, cl, fp, rfl⟩ := hC'
      exact pg_name scKeeps.nd rfl (.inr rfl) (.inl rfl)
    · intro d hd d' hd'
      rw [rangeD_places] at hd
      obtain ⟨i, _, rfl⟩ := List.mem_map.mp hd
      cases hd'
      exact .int _
    · intro d hd H5 σ2 g5 hput
      rw [rangeD_places] at hd
      obtain ⟨i, _, rfl⟩ := List.mem_map.mp hd
      obtain ⟨u5, rfl, hu5⟩ := hput
      rw [hu5.int_eq]
      have hl5 := hl3.mono g5
      refine ⟨rfl, item_all fun C' hC' => ?_⟩
      obtain ⟨s', H', c, cl, fp, rfl⟩ := hC'
      refine EV.to (ev_len rfl X.ln (ev_lc (own := [("asker", 8), ("one", 6)]) (pat := .two (.nm 8) (.nm 6)) (xs := l.map pD) (outs := oB i)
        (ei_tup (ev_var 1 (hd := hl5))) (by rw [List.length_map]; omega) rfl scKeeps.nd (blk_as (N := nKeeps) (sc := recell scT) (by decide +kernel) rfl) (eg_bt rfl (eg_bn scKeeps.nd) (eg_bn scKeeps.nd)) ?_ ?_ ?_) (.inl rfl)) (congrArg PyData.int (oB_len l i))
      · intro d hd
        obtain ⟨q, _, rfl⟩ := List.mem_map.mp hd
        exact ⟨_, _, rfl, True.intro, True.intro⟩
      · intro d hd d' hd'
        obtain ⟨q, _, rfl⟩ := List.mem_map.mp hd
        have hd' : (if decide (q.2 = i) = true then some (PyData.int 1) else none) = some d' := hd'
        split at hd'
        · cases hd'; exact .int _
        · cases hd'
      · rintro d hd H6 σ3 g6 ⟨d1, d2, σ4, ed, ⟨w1, rfl, y1⟩, ⟨w2, rfl, y2⟩⟩
        obtain ⟨q, _, rfl⟩ := List.mem_map.mp hd
        cases ed
        rw [y1.int_eq, y2.int_eq]
        refine ⟨rfl, item_if (fun C' hC' => ?_) fun _ C' hC' => ?_⟩
        · obtain ⟨s'', H'', c', cl', fp', rfl⟩ := hC'
          exact et_cmp co_eqI (ex_var 6).int (ex_var 7).int
        · obtain ⟨s'', H'', c', cl', fp', rfl⟩ := hC'
          exact ev_int
    have g14 := g13.trans g4
    have WA4 := WA.mono g14
    have hv34 := hv3.mono g4
    -- good = all(..)
    refine ss_cons (s_set 4 scKeeps.nd (EV.go g4.tk (EVP.bool (b := goodA W l) (evp_gen1 .all (k := 0) (N := [".0", "counts", "asker", "low", "high"]) (fr := ["counts"]) (js := [2]) (pat := .two (.nm 2) (.two (.nm 3) (.nm 4))) (xs := enumD (W.askers.map pD)) (outs := oLH (cntA l))
      (hr.mono (by decide)) rfl al (gtxt (defScope sKeeps) TB (by decide +kernel)) hPC (ei_enumT rfl en (ev_askers X.T (ex_var 0) WA4)) (eg_gt (eg_gn (by decide +kernel) rfl rfl) (eg_gt (eg_gn (by decide +kernel) rfl rfl) (eg_gn (by decide +kernel) rfl rfl))) ?_ ?_ (fun σ => ∃ a b c, σ = [none, some v3, a, b, c]) ⟨none, none, none, rfl⟩ ?_ ?_)) fun v5 H5 g5 hv5 => ?_))
    · intro d hd
      obtain ⟨i, pr, _, rfl⟩ := enum_mem hd
      exact ⟨_, _, rfl, True.intro, _, _, rfl, True.intro, True.intro⟩
    · intro d hd d' hd'
      obtain ⟨i, pr, _, rfl⟩ := enum_mem hd
      cases hd'
      exact .inl ⟨_, rfl⟩
    · rintro d hd H6 σ1 σ2 g6 ⟨a1, b1, c1, rfl⟩ ⟨d1, d2, σ3, ed, ⟨w1, rfl, z1⟩, ⟨d3, d4, σ4, ed2, ⟨w2, rfl, z2⟩, ⟨w3, rfl, z3⟩⟩⟩
      obtain ⟨i, pr, hi, rfl⟩ := enum_mem hd
      have hin : i < W.n := by
        have := (List.getElem?_eq_some_iff.mp hi).1
        have := ok.len
        omega
      cases ed
      cases ed2
      rw [z1.int_eq, z2.int_eq, z3.int_eq]
      have hv6 := hv34.mono g6
      refine ⟨⟨_, _, _, rfl⟩, item_all fun C' hC' => ?_⟩
      obtain ⟨A', s', H', cc, code, fp, pn, hA', rfl⟩ := hC'
      exact ev_chain co_le co_le (ex_var 3).int (ev_ix (ev_var 1 (hd := hv6)) (.inl rfl) (ex_var 2).int rfl (cnt_at hin)) (ex_var 4).int
    · have := k_all (lh_data W.askers (cntA l))
      rw [ok.len, List.all_map] at this
      exact this
    rw [hv5.bl_eq]
    have g15 := g14.trans g5
    have WA5 := WA.mono g15
    have hv45 := hv4.mono g5
    -- return good and all(..)
    refine ss_cons (s_ret (EV.go (B := B) (d := .bool (goodA W l && goodR W l)) g5.tk (ev_and (EVP.bool (ex_var 4)) fun _ => EVP.bool (b := goodR W l) (evp_gen1 .all (k := 0) (N := [".0", "taken", "room", "low", "high"]) (fr := ["taken"]) (js := [3]) (pat := .two (.nm 2) (.two (.nm 3) (.nm 4))) (xs := enumD (W.rooms.map pD)) (outs := oLH (cntR l))
      (hr.mono (by decide)) rfl al (gtxt (defScope sKeeps) TB (by decide +kernel)) hPC (ei_enumT rfl en (ev_rooms X.T (ex_var 0) WA5)) (eg_gt (eg_gn (by decide +kernel) rfl rfl) (eg_gt (eg_gn (by decide +kernel) rfl rfl) (eg_gn (by decide +kernel) rfl rfl))) ?_ ?_ (fun σ => ∃ a b c, σ = [none, some v4, a, b, c]) ⟨none, none, none, rfl⟩ ?_ ?_)) fun v6 H6 g6 hv6 => by
        rw [hv6.bl_eq]
        have : keepsB W l = (goodA W l && goodR W l) := by unfold keepsB; rw [nd, z2]; rfl
        rw [← this]
        exact k _ (g15.trans g6)))
    · intro d hd
      obtain ⟨i, pr, _, rfl⟩ := enum_mem hd
      exact ⟨_, _, rfl, True.intro, _, _, rfl, True.intro, True.intro⟩
    · intro d hd d' hd'
      obtain ⟨i, pr, _, rfl⟩ := enum_mem hd
      cases hd'
      exact .inl ⟨_, rfl⟩
    · rintro d hd H6 σ1 σ2 g6 ⟨a1, b1, c1, rfl⟩ ⟨d1, d2, σ3, ed, ⟨w1, rfl, z1⟩, ⟨d3, d4, σ4, ed2, ⟨w2, rfl, z2⟩, ⟨w3, rfl, z3⟩⟩⟩
      obtain ⟨i, pr, hi, rfl⟩ := enum_mem hd
      have hin : i < W.m := (List.getElem?_eq_some_iff.mp hi).1
      cases ed
      cases ed2
      rw [z1.int_eq, z2.int_eq, z3.int_eq]
      have hv6 := hv45.mono g6
      refine ⟨⟨_, _, _, rfl⟩, item_all fun C' hC' => ?_⟩
      obtain ⟨A', s', H', cc, code, fp, pn, hA', rfl⟩ := hC'
      exact ev_chain co_le co_le (ex_var 3).int (ev_ix (ev_var 1 (hd := hv6)) (.inl rfl) (ex_var 2).int rfl (cnt_at hin)) (ex_var 4).int
    · have := k_all (lh_data W.rooms (cntR l))
      rw [List.all_map] at this
      exact this
end
end K22
end
section
set_option Elab.async false
set_option linter.all false
set_option maxRecDepth 100000
set_option maxHeartbeats 4000000
/-! K22LawA: the law's dice: _law_dice, _law_roll, _law_rounds, _law_bounds, _law_flat. -/
namespace K22
open PySem PySem.Spec PyProof.Rows L2 NdefX Pm
abbrev sFlat : Stmt := top 24
abbrev sDice : Stmt := top 25
abbrev sRoll : Stmt := top 26
abbrev sRounds : Stmt := top 27
abbrev sTold : Stmt := top 28
abbrev sAll : Stmt := top 29
abbrev sKept : Stmt := top 30
abbrev sBounds : Stmt := top 31
abbrev sLaw : Stmt := top 32
section
variable {B : Amb} {C : Cx} {a b e o i : Expr} {σ : L2.St} {H : Hp} {pos p1 pos' : Pos}
theorem ev_op {op : Operator} {R : Int → Int → Prop} {f : Int → Int → Int} {x y : Int} (ho : OpR C (binaryOp op) (rI R fun i j => .int (f i j))) (hR : R x y) (ha : EV B C a σ H (.int x)) (hb : EV B C b σ H (.int y)) : EV B C (.BinOp a op b pos) σ H (.int (f x y)) := fun H1 g Q q =>
  of_pe (pe_op ho pe_S pe_S) (ha H1 g _ fun v H2 g2 hv => hb H2 (g.trans g2) _ fun u H3 g3 hu => by
    rw [hv.int_eq, hu.int_eq]
    exact ⟨x, y, rfl, rfl, hR, q _ H3 (g2.trans g3) (.int _)⟩)
theorem ev_mul {x y : Int} (hy : -(2 ^ 64) < y ∧ y < 2 ^ 64) (ha : EV B C a σ H (.int x)) (hb : EV B C b σ H (.int y)) : EV B C (.BinOp a .Mult b pos) σ H (.int (x * y)) := ev_op op_mul (.inr hy) ha hb
theorem ev_mod {x y : Int} (hy : 0 < y) (ha : EV B C a σ H (.int x)) (hb : EV B C b σ H (.int y)) : EV B C (.BinOp a .Mod b pos) σ H (.int (x % y)) := ev_op op_mod hy ha hb
theorem ev_fdiv {x y : Int} (hy : 0 < y ∧ y < 1073741824) (ha : EV B C a σ H (.int x)) (hb : EV B C b σ H (.int y)) : EV B C (.BinOp a .FloorDiv b pos) σ H (.int (x / y)) := ev_op op_fdiv hy ha hb
theorem ev_pow {x y : Int} (hy : CPow x y) (ha : EV B C a σ H (.int x)) (hb : EV B C b σ H (.int y)) : EV B C (.BinOp a .Pow b pos) σ H (.int (x ^ y.toNat)) := ev_op op_pow hy ha hb
theorem et_chain {c : Expr} {op op' : CmpOp} {d d' d2 : PyData} {k k' : Bool} (co : CO B C op d d' k) (co' : CO B C op' d' d2 k') (ha : EV B C a σ H d) (hb : EV B C b σ H d') (hc : EV B C c σ H d2)
    (hm : lastMarks [op, op'] [b, c] = false := by with_unfolding_all rfl) : ET B C (.Compare a [op, op'] [b, c] pos) σ H (k && k') := fun H1 g Q q => by
  obtain ⟨r, ho, hr⟩ := co
  obtain ⟨r', ho', hr'⟩ := co'
  refine of_pt (pt_chain ho ho' pe_S pe_S pe_S hm) (ha H1 g _ fun v H2 g2 hv => hb H2 (g.trans g2) _ fun u H3 g3 hu => hr v u H3 (hv.mono g3) hu _ ⟨k, rfl, ?_⟩)
  cases k with
  | false => exact iteF ⟨false, rfl, q H3 (g2.trans g3)⟩
  | true => exact iteT (hc H3 (g.trans (g2.trans g3)) _ fun y H4 g4 hy => hr' u y H4 (hu.mono g4) hy _ ⟨k', rfl, q H4 (g2.trans (g3.trans g4))⟩)
/-- int(n), int(flag), abs(n) -/
theorem ev_int1 {x : Int} (hg : Gl C "int") (hm : C.mg "int" = none) (ha : EV B C a σ H (.int x)) (hs : starEach [a] C.env = (false, eval a C.env) :: starEach [] C.env := by rfl) : EV B C (.Call (.Name "int" p1) [a] [] pos) σ H (.int x) := fun H1 g Q q =>
  of_pe (pe_callTy call_int1 hg hm (by decide +kernel) (pa_cons pe_S pa_nil hs) (he := hs)) (ha H1 g _ fun v H2 g2 hv => by
    rw [hv.int_eq]
    exact .inl ⟨x, rfl, q _ H2 g2 (.int _)⟩)
theorem ev_intB {k : Bool} (hg : Gl C "int") (hm : C.mg "int" = none) (ha : EV B C a σ H (.bool k)) (hs : starEach [a] C.env = (false, eval a C.env) :: starEach [] C.env := by rfl) : EV B C (.Call (.Name "int" p1) [a] [] pos) σ H (.int (if k then 1 else 0)) := fun H1 g Q q =>
  of_pe (pe_callTy call_int1 hg hm (by decide +kernel) (pa_cons pe_S pa_nil hs) (he := hs)) (ha H1 g _ fun v H2 g2 hv => by
    rw [hv.bl_eq]
    exact .inr ⟨k, rfl, q _ H2 g2 (.int _)⟩)
theorem ev_abs {x : Int} (hg : Gl C "abs") (hm : C.mg "abs" = none) (ha : EV B C a σ H (.int x)) (hs : starEach [a] C.env = (false, eval a C.env) :: starEach [] C.env := by rfl) : EV B C (.Call (.Name "abs" p1) [a] [] pos) σ H (.int (if x < 0 then -x else x)) := fun H1 g Q q =>
  of_pe (pe_callB call_abs hg hm (by decide +kernel) (pa_cons pe_S pa_nil hs) (he := hs)) (ha H1 g _ fun v H2 g2 hv => by
    rw [hv.int_eq]
    exact ⟨x, rfl, q _ H2 g2 (.int _)⟩)
/-- d[i] of a known list -/
theorem ex_dix {d : Addr} {xs : List V} {w : V} {n : Int} (k : Nat) (hd : H d = some (.lst xs)) (ho : EX B C o σ H (.ref d)) (hi : EV B C i σ H (.int n)) (hk : n = (k : Int) := by rfl) (hx : xs[k]? = some w := by rfl) (hs : PlainIx i := by exact fun _ _ => rfl) : EX B C (.Subscript o i pos) σ H w := fun H1 g Q q =>
  of_pe (pe_ix ix_list pe_S pe_S hs) (ho H1 g _ fun v H2 g2 hv => hi H2 (g.trans g2) _ fun u H3 g3 hu => by
    subst hv
    rw [hu.int_eq]
    exact ⟨d, xs, n, w, rfl, rfl, .inl (.inl ((g.trans (g2.trans g3)).keep _ _ hd fun ps z => by cases z)), atI_of hk hx, q w H3 (g2.trans g3) rfl⟩)
/-- d[i] = e -/
theorem s_lset {D : Ends} {d : Addr} {xs : List V} {w : V} {n : Int} (k : Nat) (tk : TK B H) (hd : H d = some (.lst xs)) (he : EX B C e σ H w) (ho : EX B C o σ H (.ref d)) (hi : EV B C i σ H (.int n))
    (q : ∀ H1, Gr B H H1 → H1 d = some (.lst xs) → D.nx σ (upd H1 d (.lst (xs.set k w)))) (hk : ixN xs.length n = some k := by rfl)
    (ha : ∀ v, assign (.Subscript o i pos') C.env v = (do
      let ov ← holding [v] (eval o C.env)
      let iv ← holding [v, ov] (eval i C.env)
      standAt pos'
      holding [v, ov, iv] (setItem ov iv v)
      release [v, ov, iv] []) := by intro _; rfl)
    (hs : swapsWithSole [.Subscript o i pos'] e pos.line C.env = pure false := by rfl) (hw : swappedStores [.Subscript o i pos'] e C.env = pure none := by rfl) (h1 : (assignEach [.Subscript o i pos'] C.env).map (·.2) = [assign (.Subscript o i pos') C.env] := by rfl) :
    sS C (.Assign [.Subscript o i pos'] e pos) D σ H := by
  refine s_asg (he H (.refl tk) _ fun v H1 g1 hv => ?_) hs hw h1
  subst hv
  refine of_pg (pg_sub pe_S pe_S set_list ha) (ho H1 g1 _ fun u H2 g2 hu => hi H2 (g1.trans g2) _ fun u' H3 g3 hu' => ?_)
  subst hu
  rw [hu'.int_eq]
  have g13 := g1.trans (g2.trans g3)
  have hd3 := g13.keep _ _ hd fun ps z => by cases z
  exact ⟨d, xs, n, k, rfl, rfl, hd3, hk, q H3 g13 hd3⟩
end
theorem EX.go0 {B : Amb} {C : Cx} {e : Expr} {σ : L2.St} {H : Hp} {w : V} {Q : VK} (tk : TK B H) (h : EX B C e σ H w) (q : ∀ H2, Gr B H H2 → Q w H2) : tS C e σ H Q := h H (.refl tk) Q fun v H2 g hv => hv ▸ q H2 g
/-! ### the dice -/
def DiceAt (H : Hp) (D : Addr) : Prop := ∃ x y z : Int, H D = some (.lst [.int x, .int y, .int z])
theorem DiceAt.mono {B : Amb} {H H' : Hp} {D : Addr} (d : DiceAt H D) (g : Gr B H H') : DiceAt H' D := by
  obtain ⟨x, y, z, e⟩ := d
  exact ⟨x, y, z, g.keep _ _ e fun ps z => by cases z⟩
section
variable {P : Program} {w : World} {K : PySem.W.Frag} {mg : Str → Option Value} {base : Heap}
def spRoll : Sp := fun vs H Q _ => ∃ (B : Amb) (D : Addr) (m : Int), vs = [.ref D, .int m] ∧ TK B H ∧ D ∈ B.X ∧ DiceAt H D ∧ 0 < m ∧ m < 1000 ∧
  ∀ H' r, Gw B [D] H H' → DiceAt H' D → 0 ≤ r → r < m → Q (.int r) H'
theorem scRoll : FnScope ["_law_dice_here", "_law_many", "_law_found"] ["_law_dice_here", "_law_many"] (defScope sRoll) := ⟨rfl, rfl, rfl, by decide +kernel, rfl, by decide +kernel, by decide +kernel⟩
theorem gw_lset {B : Amb} {H H1 : Hp} {D : Addr} {xs ys : List V} (g : Gr B H H1) (e : H1 D = some (.lst xs)) : Gw B [D] H (upd H1 D (.lst ys)) :=
  (g.w (S := [D])).trans (Gw.upd g.tk e (fun ps z => by cases z) fun q z => by cases z)
theorem ok_roll {f : Addr} {fd : FuncData} (F : Fun K "_law_roll" "_law_roll" sRoll f fd) (ni : mg "int" = none) : FnOk P w K mg base CX0 1 f fd ["_law_dice_here", "_law_many"] spRoll := by
  refine F.ok scRoll (fun vs H Q E h => ?_) (fun cdv A outer s H vs Q E hr h => ?_)
  · obtain ⟨B, D, m, rfl, _⟩ := h
    rfl
  · obtain ⟨B, D, m, rfl, tk, hX, ⟨x, y, z, e0⟩, m0, m1, k⟩ := h
    refine ⟨_, pss_S, ?_⟩
    refine ss_cons (s_if (ET.go (B := B) tk (et_or (et_cmp co_eqI (ex_dix 2 e0 (ex_var 0) ev_int).int ev_int) fun _ => et_and (et_cmp co_eqI (ex_dix 2 e0 (ex_var 0) ev_int).int ev_int) fun _ => et_cmp co_gt (ex_dix 0 e0 (ex_var 0) ev_int).int ev_int) fun H1 g1 => ?_))
    have e1 := g1.keep _ _ e0 fun ps z => by cases z
    refine ⟨fun _ => ?_, fun _ => ss_nil ?_⟩
    · -- found = int(d[0]) % many
      refine ss_cons (s_set 2 scRoll.nd (EV.go (B := B) g1.tk (ev_mod m0 (ev_int1 rfl ni (ex_dix 0 e1 (ex_var 0) ev_int).int) (ex_var 1).int) fun v H2 g2 hv => ?_))
      rw [hv.int_eq]
      have g12 := g1.trans g2
      have e2 := g2.keep _ _ e1 fun ps z => by cases z
      -- d[0] = d[0] // many
      refine ss_cons (s_lset 0 g2.tk e2 (ex_int (ev_fdiv ⟨m0, by omega⟩ (ex_dix 0 e2 (ex_var 0) ev_int).int (ex_var 1).int)) (ex_var 0) ev_int fun H3 g3 e3 => ?_)
      have w3 := gw_lset (ys := [V.int x, .int y, .int z].set 0 (V.int (x / m))) (g12.trans g3) e3
      refine ss_cons (s_ret (EV.go (B := B) (d := .int (x % m)) w3.tk (ex_var 2).int fun v H4 g4 hv => ?_))
      rw [hv.int_eq]
      exact k H4 _ (w3.trans g4.w) ⟨_, _, _, g4.keep _ _ upd_same fun ps z => by cases z⟩ (Int.emod_nonneg x (by omega)) (Int.emod_lt_of_pos x m0)
    · -- d[2] = 0
      refine ss_cons (s_lset 2 g1.tk e1 (ex_int ev_int) (ex_var 0) ev_int fun H2 g2 e2 => ?_)
      have w2 := gw_lset (ys := [V.int x, .int y, .int z].set 2 (V.int 0)) (g1.trans g2) e2
      generalize hH2 : upd H2 D _ = H2' at w2 ⊢
      have f2 : H2' D = some (.lst [.int x, .int y, .int 0]) := by rw [← hH2]; exact upd_same
      -- d[0] = int(d[0] * 48271 + d[1] * 69621 + 11) % 2147483647
      refine ss_cons (s_lset 0 w2.tk f2 (ex_int (ev_mod (by decide) (ev_int1 rfl ni (ev_add (ev_add (ev_mul (by decide) (ex_dix 0 f2 (ex_var 0) ev_int).int ev_int) (ev_mul (by decide) (ex_dix 1 f2 (ex_var 0) ev_int).int ev_int)) ev_int)) ev_int)) (ex_var 0) ev_int fun H3 g3 e3 => ?_)
      have w3 := w2.trans (gw_lset (ys := [V.int x, .int y, .int 0].set 0 (V.int ((x * 48271 + y * 69621 + 11) % 2147483647))) g3 e3)
      generalize hH3 : upd H3 D _ = H3' at w3 ⊢
      have f3 : H3' D = some (.lst [.int ((x * 48271 + y * 69621 + 11) % 2147483647), .int y, .int 0]) := by rw [← hH3]; exact upd_same
      -- d[1] = d[1] + 1
      refine ss_cons (s_lset 1 w3.tk f3 (ex_int (ev_add (ex_dix 1 f3 (ex_var 0) ev_int).int ev_int)) (ex_var 0) ev_int fun H4 g4 e4 => ?_)
      have w4 := w3.trans (gw_lset (ys := [V.int ((x * 48271 + y * 69621 + 11) % 2147483647), .int y, .int 0].set 1 (V.int (y + 1))) g4 e4)
      generalize hH4 : upd H4 D _ = H4' at w4 ⊢
      have f4 : H4' D = some (.lst [.int ((x * 48271 + y * 69621 + 11) % 2147483647), .int (y + 1), .int 0]) := by rw [← hH4]; exact upd_same
      refine ss_cons (s_ret (EV.go (B := B) w4.tk (ev_mod m0 (ev_int1 rfl ni (ev_add (ev_fdiv (by decide) (ex_dix 0 f4 (ex_var 0) ev_int).int ev_int) (ex_dix 0 f4 (ex_var 0) ev_int).int)) (ex_var 1).int) fun v H5 g5 hv => ?_))
      rw [hv.int_eq]
      exact k H5 _ (w4.trans g5.w) ⟨_, _, _, g5.keep _ _ f4 fun ps z => by cases z⟩ (Int.emod_nonneg _ (by omega)) (Int.emod_lt_of_pos _ m0)
/-- what a roll asks -/
structure Rl (K : PySem.W.Frag) (mg : Str → Option Value) (fR : Addr) (fdR : FuncData) : Prop where
  F : Fun K "_law_roll" "_law_roll" sRoll fR fdR
  b : Binds K fdR ["_law_dice_here", "_law_many"] []
  g : mg "_law_roll" = some (.ref fR)
  i : mg "int" = none
variable {fR : Addr} {fdR : FuncData}
/-- _law_roll(dice, m) -/
theorem t_roll {B : Amb} {C : Cx} {k : Nat} {a e : Expr} {σ : L2.St} {H : Hp} {p1 pos : Pos} {D : Addr} {m : Int} {Q : VK} (hK : C.K = K) (hmg : C.mg = mg) (Z : Rl K mg fR fdR) (hr : Room (k + 1) C.A) (hg : Gl C "_law_roll") (tk : TK B H) (hX : D ∈ B.X) (dc : DiceAt H D) (m0 : 0 < m) (m1 : m < 1000)
    (ha : EX B C a σ H (.ref D)) (he : EV B C e σ H (.int m)) (q : ∀ H' r, Gw B [D] H H' → DiceAt H' D → 0 ≤ r → r < m → Q (.int r) H')
    (h1 : starEach [a, e] C.env = (false, eval a C.env) :: starEach [e] C.env := by rfl) (h2 : starEach [e] C.env = (false, eval e C.env) :: starEach [] C.env := by rfl) (hpl : (backTo pos (starEach [e] C.env)).any (·.1) = false := by rfl) :
    tS C (.Call (.Name "_law_roll" p1) [a, e] [] pos) σ H Q := by
  subst hK hmg
  refine of_pe (pe_call (ok_roll Z.F Z.i) (hr.mono (by omega)) hg Z.g Z.F.kp Z.b .nil pass0 (pa_cons pe_S (pa_cons pe_S pa_nil h2) h1) (by decide) h1 hpl) (ha.go tk fun v H1 g1 hv => he H1 g1 _ fun u H2 g2 hu => ?_)
  subst hv
  rw [hu.int_eq]
  have g12 := g1.trans g2
  exact ⟨B, D, m, rfl, g12.tk, hX, dc.mono g12, m0, m1, fun H' r w3 d3 r0 r1 => q H' r (g12.w.trans w3) d3 r0 r1⟩
/-- xs.append(e), e changing the heap -/
theorem s_appendT {B : Amb} {C : Cx} {D : Ends} {o e : Expr} {σ : L2.St} {H : Hp} {apos cpos pos : Pos} {l : Addr} (tk : TK B H) (ho : EX B C o σ H (.ref l)) (hl : ∃ xs, H l = some (.lst xs)) (he : ∀ H1, Gr B H H1 → tS C e σ H1 fun w H2 => ∃ xs, H2 l = some (.lst xs) ∧ xs.length ≤ 1000000 ∧ D.nx σ (upd H2 l (.lst (xs ++ [w]))))
    (hbase : attributeBase o "append" C.env (eval o C.env) = eval o C.env := by rfl)
    (hfew : ((backTo cpos (starEach [e] C.env)).all (fun x => !x.1) && (backToKw cpos (keywordEach [] C.env)).all (fun x => x.1.isSome)
      && decide (([e] : List Expr).length + ([] : List Keyword).length + (if ([] : List Keyword).isEmpty then 0 else 1) < 30)) = true := by rfl)
    (hline : (apos.endLine == cpos.line) = true := by rfl) (hs : starEach [e] C.env = (false, eval e C.env) :: starEach [] C.env := by rfl) (hplain : (backTo cpos (starEach [] C.env)).any (·.1) = false := by rfl) (hsw : swapsWith (.Call (.Attribute o "append" apos) [e] [] cpos) none pos.line C.env = pure false := by rfl) :
    sS C (.Expr (.Call (.Attribute o "append" apos) [e] [] cpos) pos) D σ H :=
  s_expr (of_pe (pe_bm PySem.F.plainAttrs_list PySem.F.slot_list_append PySem.F.type_list_append mt_append pe_S (pa_cons pe_S pa_nil hs) hbase hfew hline hs hplain) (ho.go tk fun v H1 g1 ev => by
    subst ev
    obtain ⟨xs, hl⟩ := hl
    have e1 := g1.keep _ _ hl fun ps z => by cases z
    refine ⟨.inl ⟨rfl, xs, .inl (.inl e1)⟩, fun pins s I => wpAny_mono (he H1 g1 pins s I) (fun u s1 ⟨w, H2, I2, r2, xs2, e2, hz, q⟩ => ⟨w, H2, I2, r2, ?_⟩) fun _ _ z => z⟩
    have h3 : (1000000 : Nat) < sizeLine := by decide
    exact ⟨l, xs2, _, rfl, rfl, e2, by omega, q⟩)) hsw
/-- [] -/
theorem t_nilL {C : Cx} {σ : L2.St} {H : Hp} {pos : Pos} {Q : VK} (q : ∀ p, H p = none → Q (.ref p) (upd H p (.lst []))) : tS C (.List [] pos) σ H Q := of_pe (pe_lst pa_nil) ⟨by show 0 ≤ sizeLine; decide, fun p hp => q p hp⟩
/-! ### _law_dice -/
def diceD (x y z : Int) : PyData := .list [.int x, .int y, .int z]
def spDice : Sp := fun vs H Q _ => ∃ (B : Amb) (n : Int), vs = [.int n] ∧ TK B H ∧ ∀ H' v x y z, Gr B H H' → Is B.X H' v (diceD x y z) → Q v H'
theorem scDice : FnScope ["_law_cell"] ["_law_cell"] (defScope sDice) := ⟨rfl, rfl, rfl, by decide +kernel, rfl, by decide +kernel, by decide +kernel⟩
theorem dice_of {B : Amb} {H : Hp} {v : V} {x y z : Int} (h : Is B.X H v (.list [.int x, .int y, .int z])) : ∃ t, v = .ref t ∧ DiceAt H t ∧ t ∉ B.X := by
  obtain ⟨a, xs, rfl, e, hx, hi⟩ := h.list_at
  have ex := Iss.ints (ks := [x, y, z]) hi
  subst ex
  exact ⟨a, rfl, ⟨x, y, z, e⟩, hx⟩
theorem ok_dice {f : Addr} {fd : FuncData} (F : Fun K "_law_dice" "_law_dice" sDice f fd) (ni : mg "int" = none) (na : mg "abs" = none) : FnOk P w K mg base CX0 1 f fd ["_law_cell"] spDice := by
  refine F.ok scDice (fun vs H Q E h => ?_) (fun cdv A outer s H vs Q E hr h => ?_)
  · obtain ⟨B, n, rfl, _⟩ := h
    rfl
  · obtain ⟨B, n, rfl, tk, k⟩ := h
    refine ⟨_, pss_S, ?_⟩
    refine ss_cons (s_if (ET.go (B := B) tk (et_chain co_lt co_lt (ev_sub ev_int ev_int) (ex_var 0).int ev_int) fun H1 g1 => ⟨fun _ => ?_, fun _ => ss_nil ?_⟩))
    · refine ss_cons (s_ret (EV.go (B := B) g1.tk (ev_lst (ea_cons (ev_abs rfl na (ex_var 0).int) (ea_cons ev_int (ea_cons ev_int ea_nil))) (by show 3 ≤ sizeLine; decide)) fun v H2 g2 hv => k H2 v _ _ _ (g1.trans g2) hv))
    · refine ss_cons (s_ret (EV.go (B := B) g1.tk (ev_lst (ea_cons (ex_var 0).int (ea_cons (ev_add ev_int (ev_mod (by decide) (ev_int1 rfl ni (ex_var 0).int) ev_int)) (ea_cons (ev_intB rfl ni (ev_cmp co_ge (ex_var 0).int (ev_pow ⟨by decide, by decide, by decide⟩ ev_int ev_int))) ea_nil))) (by show 3 ≤ sizeLine; decide)) fun v H2 g2 hv => k H2 v _ _ _ (g1.trans g2) hv))
/-! ### _law_bounds -/
/-- bounds of a roll: 0 ≤ low ≤ high ≤ 2 -/
def GoodB (ps : List (Int × Int)) : Prop := ∀ p ∈ ps, 0 ≤ p.1 ∧ p.1 ≤ p.2 ∧ p.2 ≤ 2
def spBounds : Sp := fun vs H Q _ => ∃ (B : Amb) (D : Addr) (m : Nat), vs = [.ref D, .int (m : Int)] ∧ TK B H ∧ D ∈ B.X ∧ DiceAt H D ∧ m ≤ 1000 ∧
  ∀ H' v ps, Gw B [D] H H' → DiceAt H' D → GoodB ps → ps.length = m → Is B.X H' v (.list (ps.map pD)) → Q v H'
abbrev nBounds : List Str := ["_law_dice_here", "_law_many", "_law_found", "_law_k", "_law_low"]
theorem scBounds : FnScope nBounds ["_law_dice_here", "_law_many"] (defScope sBounds) := ⟨rfl, rfl, rfl, by decide +kernel, rfl, by decide +kernel, by decide +kernel⟩
theorem ok_bounds {f : Addr} {fd : FuncData} (F : Fun K "_law_bounds" "_law_bounds" sBounds f fd) (Z : Rl K mg fR fdR) (rg : mg "range" = none) : FnOk P w K mg base CX0 2 f fd ["_law_dice_here", "_law_many"] spBounds := by
  refine F.ok scBounds (fun vs H Q E h => ?_) (fun cdv A outer s H vs Q E hr h => ?_)
  · obtain ⟨B, D, m, rfl, _⟩ := h
    rfl
  · obtain ⟨B, D, m, rfl, tk, hX, dc, hm, k⟩ := h
    refine ⟨_, pss_S, ?_⟩
    -- found = []
    refine ss_cons (s_set 2 scBounds.nd (t_nilL fun L hL => ?_))
    have g1 := Gr.new (o := .lst []) tk hL
    have hLX : L ∉ B.X := tk.notX hL
    have hLD : L ≠ D := fun z => hLX (z ▸ hX)
    have eL : upd H L (.lst []) L = some (.lst []) := upd_same
    generalize upd H L (.lst []) = H1 at g1 eL
    have dc1 := dc.mono g1
    have tk1 : TK (B.plus [L]) H1 := g1.tk.plus fun a ha => by rw [List.mem_singleton.mp ha, eL]; exact fun z => by cases z
    have subS : ∀ a ∈ [D, L], a ∈ (B.plus [L]).X := fun a ha => by
      rcases List.mem_cons.mp ha with e | ha
      · rw [e]; exact List.mem_append_right _ hX
      · rw [List.mem_singleton.mp ha]; exact List.mem_append_left _ (List.mem_singleton.mpr rfl)
    -- for k in range(many)
    refine ss_cons (s_for (B := B.plus [L]) (xs := rangeD m) tk1 PassesOwn.never rfl (ei_range rfl rg (ex_var 1).int (by omega)) fun H2 g2 => ⟨.nm 3, fun i σ' H' => ∃ (kk low : Option V) (vs' : List V) (ps : List (Int × Int)), σ' = [some (.ref D), some (.int (m : Int)), some (.ref L), kk, low] ∧ Gw (B.plus [L]) [D, L] H2 H' ∧ DiceAt H' D ∧ GoodB ps ∧ ps.length = i ∧ H' L = some (.lst vs') ∧ Iss (B.plus [L]).X H' vs' (ps.map pD), eg_cn scBounds.nd rfl (.inl rfl) (.inl rfl), fun _ _ => True.intro,
      ⟨none, none, [], [], rfl, g2.self.w, dc1.mono g2, (fun p hp => nomatch hp), rfl, g2.keep _ _ eL (fun ps z => by cases z), .nil⟩, ?_, ?_, ?_⟩)
    · rintro i σ' H' hi ⟨kk, low, vs', ps, rfl, w3, _⟩
      exact w3.x subS
    · rintro i d σ' H' H3 σ2 hd ⟨kk, low, vs', ps, rfl, w3, d3, gb, hl, e3, is3⟩ g3 ⟨v3, rfl, hv3⟩
      have hlen : i < m := by
        have := (List.getElem?_eq_some_iff.mp hd).1
        rw [rangeD_places] at this
        unfold iD places at this
        rw [List.length_map, List.length_map, List.length_range] at this
        exact this
      -- low = roll(dice, 2)
      refine ss_cons (s_set 4 scBounds.nd (t_roll rfl rfl Z (k := 0) hr rfl g3.tk (List.mem_append_right _ hX) (d3.mono g3) (m := 2) (by decide) (by decide) (ex_var 0) ev_int fun H4 r w4 d4 r0 r1 => ?_))
      have e4 : H4 L = some (.lst vs') := w4.at (g3.keep _ _ e3 fun ps z => by cases z) (fun ps z => by cases z) (by simpa using hLD)
      -- found.append((low, low + roll(dice, 2)))
      refine ss_cons (s_appendT w4.tk (ex_var 2) ⟨_, e4⟩ fun H5 g5 => of_pe (pe_tup (pa_cons pe_S (pa_cons pe_S pa_nil))) ((ex_var (B := B.plus [L]) 4) H5 g5.self _ fun u6 H6 g6 hu6 => of_pe (pe_op op_add pe_S pe_S) ((ex_var (B := B.plus [L]) 4) H6 g6.self _ fun u7 H7 g7 hu7 =>
        t_roll rfl rfl Z (k := 0) hr rfl g7.tk (List.mem_append_right _ hX) (d4.mono (g5.trans (g6.trans g7))) (m := 2) (by decide) (by decide) (ex_var 0) ev_int fun H8 r' w8 d8 r0' r1' => ?_)))
      subst hu6
      subst hu7
      refine ⟨r, r', rfl, rfl, (by show 2 ≤ sizeLine; decide), fun t ht => ?_⟩
      have wAll : Gw (B.plus [L]) [D] H3 H8 := w4.trans ((g5.trans (g6.trans g7)).w.trans w8)
      have e8 : H8 L = some (.lst vs') := w8.at ((g5.trans (g6.trans g7)).keep _ _ e4 fun ps z => by cases z) (fun ps z => by cases z) (by simpa using hLD)
      have g9 := Gr.new (o := .tup [V.int r, .int (r + r')]) w8.tk ht
      have ht8 : t ∉ (B.plus [L]).X := w8.tk.notX ht
      have et : upd H8 t (.tup [V.int r, .int (r + r')]) t = some (.tup [V.int r, .int (r + r')]) := upd_same
      generalize upd H8 t (.tup [V.int r, .int (r + r')]) = H9 at g9 et ⊢
      have e9 := g9.keep _ _ e8 fun ps z => by cases z
      have is9 : Iss (B.plus [L]).X H9 vs' (ps.map pD) := is3.monoX ((g3.x.trans (wAll.x fun a ha => subS a (List.mem_cons.mpr (.inl (List.mem_singleton.mp ha))))).gr g9)
      have wU : Gw (B.plus [L]) [D, L] H9 (upd H9 L (.lst (vs' ++ [V.ref t]))) := (Gw.upd g9.tk e9 (fun ps z => by cases z) fun q z => by cases z).more fun a ha => List.mem_cons_of_mem _ ha
      have lv : vs'.length = ps.length := by rw [is3.1, List.length_map]
      have isT : Is (B.plus [L]).X H9 (.ref t) (pD (r, r + r')) := .tup et ht8 rfl (fun n v dd h1 h2 => by
        match n, h1, h2 with
        | 0, h1, h2 => cases h1; cases h2; exact .int _
        | 1, h1, h2 => cases h1; cases h2; exact .int _
        | n + 2, h1, h2 => simp at h1)
      refine ⟨vs', e9, by omega, ss_nil ⟨_, _, vs' ++ [V.ref t], ps ++ [(r, r + r')], rfl, (w3.trans ((g3.w.trans (wAll.more fun a ha => List.mem_cons.mpr (.inl (List.mem_singleton.mp ha)))).trans g9.w)).trans wU, ?_, ?_, by rw [List.length_append, hl]; rfl, upd_same, ?_⟩⟩
      · obtain ⟨x, y, z, ed⟩ := d8.mono g9
        exact ⟨x, y, z, by rw [upd_ne (Ne.symm hLD)]; exact ed⟩
      · intro p hp
        rcases List.mem_append.mp hp with hp | hp
        · exact gb p hp
        · rw [List.mem_singleton.mp hp]
          exact ⟨r0, by show r ≤ r + r'; omega, by show r + r' ≤ 2; omega⟩
      · rw [List.map_append]
        exact (is9.snoc isT).monoX (wU.x subS)
    · rintro σ' H' ⟨kk, low, vs', ps, rfl, w3, d3, gb, hl, e3, is3⟩
      have hm' : (rangeD m).length = m := by rw [rangeD_places]; unfold iD places; rw [List.length_map, List.length_map, List.length_range]
      rw [hm'] at hl
      have wAll : Gw B [D] H H' := by
        have wf : Gw B [D, L] H H' := (g1.w.trans (g2.minus.w)).trans w3.minus
        exact ⟨fun a o e n ha => wf.keep a o e n fun z => (List.mem_cons.mp z).elim (fun z => ha (List.mem_singleton.mpr z)) (fun z => by rw [List.mem_singleton.mp z, hL] at e; cases e), wf.tk, wf.dom⟩
      -- return found
      refine ss_cons (s_ret (EX.go0 (B := B) wAll.tk (ex_var 2) fun H4 g4 => ?_))
      refine k H4 _ ps (wAll.trans g4.w) (d3.mono g4) gb hl (.lst (g4.keep _ _ e3 fun ps z => by cases z) hLX is3.1 fun n v dd h1 h2 => ?_)
      exact Is.mono g4 (Is.minus (is3.2 n v dd h1 h2))
end
end K22
end
section
set_option Elab.async false
set_option linter.all false
set_option maxRecDepth 100000
set_option maxHeartbeats 4000000
/-! K22LcX: list comprehensions whose turns change the heap at known places. -/
namespace K22
open PySem PySem.Spec PyProof.Rows L2 NdefX Pm
section
variable {B : Amb} {C : Cx} {tg iter elt : Expr} {ifs : List Expr} {σ : L2.St} {H : Hp} {pos : Pos} {scope : Scope} {own : List (Str × Nat)} {pat : Pat} {xs : List PyData} {S : List Addr} {Inv : Hp → Prop} {R : List PyData → List PyData → Prop}
/-- one turn -/
def TurnX (B : Amb) (S : List Addr) (F : Fam) (Inv : Hp → Prop) (ifs : List Expr) (elt : Expr) (σ2 : L2.St) (H3 : Hp) (Rs : Prop) (Rv : PyData → Prop) : Prop :=
  ∀ (Ks : Hp → Prop) (Kv : V → Hp → Prop), (∀ H5, Gw B S H3 H5 → Inv H5 → Rs → Ks H5) → (∀ v d' H5, Gw B S H3 H5 → Inv H5 → Is B.X H5 v d' → Rv d' → Kv v H5) →
    FT F ifs σ2 H3 fun b H4 => if b = true then FE F elt σ2 H4 Kv else Ks H4
theorem reads_lcX {F : Fam} {wi : TI} {vs : List Nat} {H1 : Hp} {Q : VK} (g : Gr B H H1) (hwi : ∀ H1, Gr B H H1 → ∀ R : It → Hp → Prop, (∀ J H2, Gr B H1 H2 → Walks B J xs H2 → R J H2) → wi σ H1 R) (hS : ∀ a ∈ S, a ∈ B.X) (hlen : xs.length ≤ 1000000) (hg : ∀ B', EG B' F tg pat) (hsh : ∀ d ∈ xs, Shape pat d) (hfl : ∀ d ∈ xs, LF d)
    (R0 : R [] []) (inv0 : Inv H) (invG : ∀ H4 H5, Gr B H4 H5 → Inv H4 → Inv H5) (invU : ∀ L H5 u, H L = none → Inv H5 → Inv (upd H5 L u))
    (item : ∀ L, H L = none → L ∉ B.X → ∀ i d, xs[i]? = some d → ∀ o, R (xs.take i) o → ∀ H3 σ2, Gw (B.plus [L]) S H H3 → Inv H3 → Put (B.plus [L]).X H3 pat d (wipe σ vs) σ2 → wipe σ2 vs = wipe σ vs ∧
      TurnX (B.plus [L]) S F Inv ifs elt σ2 H3 (R (xs.take (i + 1)) o) (fun d' => R (xs.take (i + 1)) (o ++ [d'])))
    (q : ∀ v H2 ds, Gw B S H1 H2 → Inv H2 → R xs ds → Is B.X H2 v (.list ds) → Q v H2) : tLc wi (FG F tg) (FT F ifs) (FE F elt) vs σ H1 Q := by
  refine hwi H1 g _ fun J H2 g2 hw D hD => ?_
  have hDH : H D = none := (g.trans g2).dom _ hD
  have hDX : D ∉ B.X := g2.tk.notX hD
  have g02 := g.trans g2
  obtain ⟨gg, hgg, kg⟩ := hg (B.plus [D])
  have up : ∀ {H'}, Gw (B.plus [D]) S H2 H' → Gw (B.plus [D]) S H H' := fun {H'} g' => ⟨fun a o e n ha => g'.keep a o (g02.keep a o e n) n ha, g'.tk, fun a z => g02.dom a (g'.dom a z)⟩
  have hSp : ∀ a ∈ S, a ∈ (B.plus [D]).X := fun a ha => List.mem_append_right _ (hS a ha)
  have hDS : D ∉ S := fun z => hDX (hS D z)
  refine ⟨fun i m H' => m = xs.length - i ∧ i ≤ xs.length ∧ ∃ vs' o, H' D = some (.lst vs') ∧ Iss (B.plus [D]).X H' vs' o ∧ Gw (B.plus [D]) S H2 H' ∧ Inv H' ∧ R (xs.take i) o ∧ o.length ≤ i, ⟨xs.length, by simp, Nat.zero_le _, [], [], upd_same, .nil, ?_, invU _ _ _ hDH (invG _ _ g02 inv0), R0, Nat.le_refl _⟩, ?_⟩
  · have g3 := Gr.new (o := .lst []) g2.tk hD
    exact (⟨g3.keep, g3.tk.plus (fun a ha => by rw [List.mem_singleton.mp ha, upd_same]; exact fun z => (by cases z)), g3.dom⟩ : Gr (B.plus [D]) H2 _).w
  rintro i m H' ⟨rfl, hi, vs', o, hDl, iss, w2, inv, hR, ho⟩
  have gx : Gx B H2 H' := w2.minus.x hS
  cases hd : xs[i]? with
  | none =>
    have e : i = xs.length := by
      have := List.getElem?_eq_none_iff.mp hd
      omega
    refine .inl ⟨(hw H' i gx).2 e, q _ H' o (g2.w.trans w2.minus) inv ?_ (.lst hDl hDX iss.1 fun n v d h1 h2 => Is.minus (iss.2 n v d h1 h2))⟩
    rw [e, List.take_length] at hR
    exact hR
  | some d =>
    have hlt : i < xs.length := (List.getElem?_eq_some_iff.mp hd).1
    have hmem : d ∈ xs := List.mem_of_getElem? hd
    obtain ⟨hgo, hy⟩ := (hw H' i gx).1 d hd
    refine .inr ⟨hgo, fun H'' => i + 1 ≤ xs.length ∧ ∃ vs' o, H'' D = some (.lst vs') ∧ Iss (B.plus [D]).X H'' vs' o ∧ Gw (B.plus [D]) S H2 H'' ∧ Inv H'' ∧ R (xs.take (i + 1)) o ∧ o.length ≤ i + 1, fun H'' h => ⟨xs.length - (i + 1), by omega, rfl, h⟩, fun x H3 yl => ?_⟩
    obtain ⟨g3, hx⟩ := hy x H3 yl
    have g3p : Gr (B.plus [D]) H' H3 := g3.plus fun a ha => by rw [List.mem_singleton.mp ha, hDl]; exact fun z => by cases z
    have D3 : H3 D = some (.lst vs') := g3p.keep _ _ hDl fun ps z => by cases z
    have w3 := w2.trans (g3p.w (S := S))
    have inv3 := invG _ _ g3 inv
    have iss3 := iss.mono g3p
    intro C1 hC1 pins s u I r
    refine (hgg C1 hC1).run pins s (wipe σ vs) H3 x u _ I r (kg d x (wipe σ vs) H3 _ (LF.apart D3 hx (hfl d hmem)) (hsh d hmem) fun σ2 hput => ?_)
    obtain ⟨hwipe, turn⟩ := item D hDH hDX i d hd o hR H3 σ2 (up w3) inv3 hput
    refine ⟨hwipe, turn _ _ (fun H5 w5 inv5 hR5 => ⟨hlt, vs', o, w5.at D3 (fun ps z => by cases z) hDS, iss3.monoX (w5.x hSp), w3.trans w5, inv5, hR5, by omega⟩) fun v d' H5 w5 inv5 hv hR5 => ?_⟩
    have D5 := w5.at D3 (fun ps z => by cases z) hDS
    have hl : vs'.length < sizeLine := by
      have h1 := iss.1
      have h3 : (1000000 : Nat) < sizeLine := by decide
      omega
    have w35 := w3.trans w5
    have gU : Gx (B.plus [D]) H5 (upd H5 D (.lst (vs' ++ [v]))) := Gx.upd w5.tk D5 (List.mem_append_left _ (List.mem_singleton.mpr rfl)) (fun ps z => by cases z) fun q z => by cases z
    refine ⟨vs', D5, hl, hlt, vs' ++ [v], o ++ [d'], upd_same, ((iss3.monoX (w5.x hSp)).snoc hv).monoX gU, ⟨fun a u e n ha => ?_, gU.tk, fun a z => ?_⟩, invU _ _ _ hDH inv5, hR5, by rw [List.length_append, List.length_singleton]; omega⟩
    · rw [upd_ne (fun z => by rw [z, hD] at e; cases e)]
      exact w35.keep a u e n ha
    · by_cases c : a = D
      · rw [c]; exact hD
      · rw [upd_ne c] at z; exact w35.dom a z
/-- [elt for target in iter if ..], turns changing the heap at S -/
theorem t_lcX {Q : VK} (tk : TK B H) (hi : EI B C tg iter σ H xs) (hS : ∀ a ∈ S, a ∈ B.X) (hlen : xs.length ≤ 1000000) (hc : C.calm = true) (hN : C.N.Nodup) (ok : BlkOk C.N C.env.scope scope own) (hg : ∀ B', EG B' (Blk C scope) tg pat) (hsh : ∀ d ∈ xs, Shape pat d) (hfl : ∀ d ∈ xs, LF d)
    (R0 : R [] []) (inv0 : Inv H) (invG : ∀ H4 H5, Gr B H4 H5 → Inv H4 → Inv H5) (invU : ∀ L H5 u, H L = none → Inv H5 → Inv (upd H5 L u))
    (item : ∀ L, H L = none → L ∉ B.X → ∀ i d, xs[i]? = some d → ∀ o, R (xs.take i) o → ∀ H3 σ2, Gw (B.plus [L]) S H H3 → Inv H3 → Put (B.plus [L]).X H3 pat d (wipe σ (own.map (·.2))) σ2 → wipe σ2 (own.map (·.2)) = wipe σ (own.map (·.2)) ∧
      TurnX (B.plus [L]) S (Blk C scope) Inv ifs elt σ2 H3 (R (xs.take (i + 1)) o) (fun d' => R (xs.take (i + 1)) (o ++ [d'])))
    (q : ∀ v H2 ds, Gw B S H H2 → Inv H2 → R xs ds → Is B.X H2 v (.list ds) → Q v H2) (hs : ∀ x, foldedSetIterable iter C.env x = pure x := by intro _; rfl) :
    tS C (.ListComp elt [⟨tg, iter, ifs, 0⟩] scope pos) σ H Q := by
  obtain ⟨wi, pi, hwi⟩ := hi
  refine of_pe (pe_lc hc hN pi ok (fun s H c cl fp => pg_F (F := Blk C scope) ⟨s, H, c, cl, fp, rfl⟩) (fun s H c cl fp => pts_F (F := Blk C scope) ⟨s, H, c, cl, fp, rfl⟩) (fun s H c cl fp => pe_F (F := Blk C scope) ⟨s, H, c, cl, fp, rfl⟩) hs) ?_
  exact reads_lcX (.refl tk) hwi hS hlen hg hsh hfl R0 inv0 invG invU item q
/-- turns without a test, without one place changed: for values that are lists -/
theorem turn_all {F : Fam} {σ2 : L2.St} {H3 : Hp} {Rs : Prop} {Rv : PyData → Prop} (h : ∀ Q : VK, (∀ v d' H5, Gw B S H3 H5 → Inv H5 → Is B.X H5 v d' → Rv d' → Q v H5) → ∀ C, F C → tS C elt σ2 H3 Q) : TurnX B S F Inv [] elt σ2 H3 Rs Rv := fun Ks Kv ks kv => fun C hC pins s I =>
  pts_nil.run pins s σ2 H3 _ I (by
    show (if true = true then FE F elt σ2 H3 Kv else Ks H3)
    rw [if_pos rfl]
    exact fun C' hC' => h _ kv C' hC')
theorem turn_if {F : Fam} {c : Expr} {σ2 : L2.St} {H3 : Hp} {Rs : Prop} {Rv : PyData → Prop} (h : ∀ Q : Bool → Hp → Prop, (∀ H4, Gw B S H3 H4 → Inv H4 → (Rs → Q false H4) ∧ ((∀ Q2 : VK, (∀ v d' H5, Gw B S H3 H5 → Inv H5 → Is B.X H5 v d' → Rv d' → Q2 v H5) → ∀ C, F C → tS C elt σ2 H4 Q2) → Q true H4)) → ∀ C, F C → tST C c σ2 H3 Q) : TurnX B S F Inv [c] elt σ2 H3 Rs Rv := fun Ks Kv ks kv => fun C hC pins s I =>
  (pts_one pt_S).run pins s σ2 H3 _ I (h _ (fun H4 w4 i4 => ⟨fun rs => iteF (ks H4 w4 i4 rs), fun k => iteT fun C' hC' => k _ kv C' hC'⟩) C hC)
end
end K22
end
section
set_option Elab.async false
set_option linter.all false
set_option maxRecDepth 100000
set_option maxHeartbeats 4000000
/-! K22LawB: _law_flat, _law_all, _law_kept, _law_rounds. -/
namespace K22
open PySem PySem.Spec PyProof.Rows L2 NdefX Pm
section
variable {P : Program} {w : World} {K : PySem.W.Frag} {mg : Str → Option Value} {base : Heap}
theorem take_at {α : Type} {l : List α} {i : Nat} {x : α} (h : l[i]? = some x) : l.take (i + 1) = l.take i ++ [x] := by
  rw [List.take_add_one, h]; rfl
theorem rangeD_at {n i : Nat} {d : PyData} (h : (rangeD n)[i]? = some d) : i < n ∧ d = .int (i : Int) := by
  unfold rangeD at h
  rw [List.getElem?_map] at h
  by_cases c : i < n
  · rw [List.getElem?_range c] at h
    cases h
    exact ⟨c, rfl⟩
  · rw [List.getElem?_eq_none (by rw [List.length_range]; omega)] at h
    cases h
/-! ### _law_flat -/
def spFlat : Sp := fun vs H Q _ => ∃ (B : Amb) (v : V) (xss : List (List PyData)), vs = [v] ∧ TK B H ∧ Is B.X H v (.list (xss.map PyData.list)) ∧ xss.flatten.length ≤ 1000 ∧ ∀ H' v', Gr B H H' → Is B.X H' v' (.list xss.flatten) → Q v' H'
theorem scFlat : FnScope ["_law_rows", "_law_found", "_law_row"] ["_law_rows"] (defScope sFlat) := ⟨rfl, rfl, rfl, by decide +kernel, rfl, by decide +kernel, by decide +kernel⟩
theorem flatten_take {α : Type} (xss : List (List α)) (i : Nat) : (xss.take i).flatten.length ≤ xss.flatten.length := by
  have : xss.flatten = (xss.take i).flatten ++ (xss.drop i).flatten := by rw [← List.flatten_append, List.take_append_drop]
  rw [this, List.length_append]
  omega
theorem ok_flat {f : Addr} {fd : FuncData} (F : Fun K "_law_flat" "_law_flat" sFlat f fd) : FnOk P w K mg base CX0 1 f fd ["_law_rows"] spFlat := by
  refine F.ok scFlat (fun vs H Q E h => ?_) (fun cdv A outer s H vs Q E hr h => ?_)
  · obtain ⟨B, v, xss, rfl, _⟩ := h
    rfl
  · obtain ⟨B, v, xss, rfl, tk, hv, hl, k⟩ := h
    refine ⟨_, pss_S, ?_⟩
    refine ss_cons (s_set 1 scFlat.nd (EV.go (B := B) tk (d := .list []) (ev_lst ea_nil (by show 0 ≤ sizeLine; decide)) fun v1 H1 g1 hv1 => ?_))
    have hv0 := hv.mono g1
    refine ss_cons (s_for (B := B) (xs := xss.map PyData.list) g1.tk PassesOwn.never rfl (ei_list (ev_var 0 (hd := hv0))) fun H2 g2 => ⟨.nm 2, fun i σ' H' => ∃ (vf : V) (o : Option V), σ' = [some v, some vf, o] ∧ Gr B H2 H' ∧ Is B.X H' vf (.list (xss.take i).flatten), eg_cn scFlat.nd rfl (.inl rfl) (.inl rfl), fun _ _ => True.intro,
      ⟨v1, none, rfl, g2.self, hv1.mono g2⟩, fun i σ' H' _ ⟨_, _, _, g3, _⟩ => g3.x, ?_, ?_⟩)
    · rintro i d σ' H' H3 σ2 hd ⟨vf, o, rfl, g3, hf⟩ g4 ⟨u, rfl, hu⟩
      rw [List.getElem?_map] at hd
      obtain ⟨row, hrow, rfl⟩ := Option.map_eq_some_iff.mp hd
      have hf4 := hf.mono g4
      have hle := flatten_take xss (i + 1)
      rw [take_at hrow, List.flatten_append, List.length_append] at hle
      have e1 : [row].flatten = row := by simp
      rw [e1] at hle
      have h3 : (1000 : Nat) ≤ sizeLine := by decide
      refine ss_cons (s_set 1 scFlat.nd (EV.go (B := B) g4.tk (ev_cat (ev_var 1 (hd := hf4)) (ev_var 2 (hd := hu)) (by omega)) fun v5 H5 g5 hv5 => ss_nil ⟨v5, _, rfl, g3.trans (g4.trans g5), ?_⟩))
      rw [take_at hrow, List.flatten_append, e1]
      exact hv5
    · rintro σ' H' ⟨vf, o, rfl, g3, hf⟩
      rw [List.length_map, List.take_length] at hf
      exact ss_cons (s_ret (EV.go (B := B) g3.tk (ev_var 1 (hd := hf)) fun v4 H4 g4 hv4 => k H4 v4 (g1.trans (g2.trans (g3.trans g4))) hv4))
/-! ### _law_all -/
def spAll : Sp := fun vs H Q _ => ∃ (B : Amb) (v : V) (ps : Lot), vs = [v] ∧ TK B H ∧ Is B.X H v (.list (ps.map pD)) ∧ ps.length ≤ 16 ∧ ∀ H' v', Gr B H H' → Is B.X H' v' (.list ((allLots ps).map lotD)) → Q v' H'
abbrev nAll : List Str := ["_law_pairs", "_law_found", "_law_pair", "_law_lot"]
theorem scAll : FnScope nAll ["_law_pairs"] (defScope sAll) := ⟨rfl, rfl, rfl, by decide +kernel, rfl, by decide +kernel, by decide +kernel⟩
theorem allLots_len (ps : Lot) : (allLots ps).length = 2 ^ ps.length ∧ ∀ l ∈ allLots ps, l.length ≤ ps.length := by
  refine ⟨?_, fun l hl => (mem_allLots.mp hl).length_le⟩
  unfold allLots
  suffices h : ∀ (ps : Lot) (f : List Lot), (ps.foldl (fun f p => f ++ f.map fun l => l ++ [p]) f).length = f.length * 2 ^ ps.length by
    rw [h]; simp
  intro ps
  induction ps with
  | nil => intro f; simp
  | cons p ps ih =>
    intro f
    rw [List.foldl_cons, ih, List.length_append, List.length_map, List.length_cons, Nat.pow_succ]
    rw [← Nat.two_mul, Nat.mul_comm 2 f.length, Nat.mul_assoc, Nat.mul_comm 2]
theorem allLots_snoc (ps : Lot) (p : Int × Int) : allLots (ps ++ [p]) = allLots ps ++ (allLots ps).map fun l => l ++ [p] := by
  unfold allLots
  rw [List.foldl_append]
  rfl
/-- lot + (pair,) -/
def oSnoc (p : Int × Int) : PyData → Option PyData
  | .tuple ds => some (.tuple (ds ++ [pD p]))
  | _ => none
theorem snoc_data (p : Int × Int) (ls : List Lot) : (ls.map lotD).filterMap (oSnoc p) = (ls.map fun l => l ++ [p]).map lotD := by
  rw [fm_map (enc := lotD) (outs := oSnoc p) (f := fun l => lotD (l ++ [p])) (fun l => by
    show some (PyData.tuple (l.map pD ++ [pD p])) = some (PyData.tuple ((l ++ [p]).map pD))
    rw [List.map_append]; rfl), List.map_map]
  rfl
theorem lf_lotD (l : Lot) : LF (lotD l) := .tup fun d hd => by
  obtain ⟨p, _, rfl⟩ := List.mem_map.mp hd
  exact lf_pair (.int _) (.int _)
theorem ok_all {f : Addr} {fd : FuncData} (F : Fun K "_law_all" "_law_all" sAll f fd) : FnOk P w K mg base CX0 1 f fd ["_law_pairs"] spAll := by
  refine F.ok scAll (fun vs H Q E h => ?_) (fun cdv A outer s H vs Q E hr h => ?_)
  · obtain ⟨B, v, ps, rfl, _⟩ := h
    rfl
  · obtain ⟨B, v, ps, rfl, tk, hv, hl, k⟩ := h
    refine ⟨_, pss_S, ?_⟩
    -- found = [()]
    refine ss_cons (s_set 1 scAll.nd (EV.go (B := B) tk (d := .list [lotD []]) (ev_lst (ea_cons (ev_tup ea_nil (by show 0 ≤ sizeLine; decide)) ea_nil) (by show 1 ≤ sizeLine; decide)) fun v1 H1 g1 hv1 => ?_))
    have hv0 := hv.mono g1
    refine ss_cons (s_for (B := B) (xs := ps.map pD) g1.tk PassesOwn.never rfl (ei_list (ev_var 0 (hd := hv0))) fun H2 g2 => ⟨.nm 2, fun i σ' H' => ∃ (vf : V) (o o' : Option V), σ' = [some v, some vf, o, o'] ∧ Gr B H2 H' ∧ Is B.X H' vf (.list ((allLots (ps.take i)).map lotD)), eg_cn scAll.nd rfl (.inr rfl) (.inl rfl), fun _ _ => True.intro,
      ⟨v1, none, none, rfl, g2.self, hv1.mono g2⟩, fun i σ' H' _ ⟨_, _, _, _, g3, _⟩ => g3.x, ?_, ?_⟩)
    · rintro i d σ' H' H3 σ2 hd ⟨vf, o, o', rfl, g3, hf⟩ g4 ⟨u, rfl, hu⟩
      rw [List.getElem?_map] at hd
      obtain ⟨p, hp, rfl⟩ := Option.map_eq_some_iff.mp hd
      have hf4 := hf.mono g4
      have hi : i < ps.length := (List.getElem?_eq_some_iff.mp hp).1
      have hlen : (allLots (ps.take i)).length ≤ 65536 := by
        rw [(allLots_len _).1, List.length_take]
        exact Nat.le_trans (Nat.pow_le_pow_right (by decide) (show min i ps.length ≤ 16 by omega)) (by decide)
      have h3 : (1000000 : Nat) ≤ sizeLine := by decide
      refine ss_cons (s_set 1 scAll.nd (EV.go (B := B) g4.tk (ev_cat (ev_var 1 (hd := hf4)) (EV.to (ev_lc (own := [("_law_lot", 3)]) (pat := .nm 3) (xs := (allLots (ps.take i)).map lotD) (outs := oSnoc p)
        (ei_list (ev_var 1 (hd := hf4))) (by rw [List.length_map]; omega) rfl scAll.nd (blk_by (N := nAll) (sc := defScope sAll) (by decide +kernel)) (eg_bn scAll.nd) (fun d _ => True.intro) ?_ ?_) (congrArg PyData.list (snoc_data p _))) (by rw [List.length_map, List.length_map, List.length_map]; omega)) fun v5 H5 g5 hv5 => ss_nil ⟨v5, _, _, rfl, g3.trans (g4.trans g5), ?_⟩))
      · intro d hd d' hd'
        obtain ⟨l, _, rfl⟩ := List.mem_map.mp hd
        have hd' : some (PyData.tuple (l.map pD ++ [pD p])) = some d' := hd'
        cases hd'
        refine .tup fun d hd => ?_
        rcases List.mem_append.mp hd with hd | hd
        · obtain ⟨p, _, rfl⟩ := List.mem_map.mp hd
          exact lf_pair (.int _) (.int _)
        · rw [List.mem_singleton.mp hd]
          exact lf_pair (.int _) (.int _)
      · intro d hd H6 σ3 g6 hput
        obtain ⟨l, hlm, rfl⟩ := List.mem_map.mp hd
        obtain ⟨u6, rfl, hu6⟩ := hput
        have hu7 := hu.mono g6
        have hll : l.length ≤ 16 := by
          have := (allLots_len (ps.take i)).2 l hlm
          rw [List.length_take] at this
          omega
        refine ⟨rfl, item_all fun C' hC' => ?_⟩
        obtain ⟨s', H', c, cl, fp, rfl⟩ := hC'
        exact ev_catT (ev_var 3 (hd := hu6)) (ev_tup (ea_cons (ev_var 2 (hd := hu7)) ea_nil) (by show 1 ≤ sizeLine; decide)) (by rw [List.length_map]; show l.length + 1 ≤ sizeLine; omega)
      · rw [take_at hp, allLots_snoc, List.map_append]
        exact hv5
    · rintro σ' H' ⟨vf, o, o', rfl, g3, hf⟩
      rw [List.length_map, List.take_length] at hf
      exact ss_cons (s_ret (EV.go (B := B) g3.tk (ev_var 1 (hd := hf)) fun v4 H4 g4 hv4 => k H4 v4 (g1.trans (g2.trans (g3.trans g4))) hv4))
/-! ### _law_kept -/
def spKept : Sp := fun vs H Q _ => ∃ (B : Amb) (vl va vr : V) (W : Wt) (l : Lot) (b : Bool), vs = [vl, va, vr, .bl b] ∧ TK B H ∧ Is B.X H vl (lotD l) ∧ Is B.X H va (.list (W.askers.map pD)) ∧ Is B.X H vr (.list (W.rooms.map pD)) ∧ W.askers.length = W.lists.length ∧ W.lists.length ≤ 1000 ∧ W.rooms.length ≤ 1000 ∧ l.length ≤ 1000 ∧
  ∀ H', Gr B H H' → Q (.bl (keptB W l b)) H'
abbrev nKept : List Str := ["_law_lot", "_law_askers", "_law_rooms", "_law_least", "_law_k", "_law_count", "_law_pair"]
theorem scKept : FnScope nKept ["_law_lot", "_law_askers", "_law_rooms", "_law_least"] (defScope sKept) := ⟨rfl, rfl, rfl, by decide +kernel, rfl, by decide +kernel, by decide +kernel⟩
def badA (W : Wt) (l : Lot) (b : Bool) (a : Nat) : Bool := decide (W.ahi a < cntA l (a : Int)) || (b && decide (cntA l (a : Int) < W.alo a))
def badRm (W : Wt) (l : Lot) (b : Bool) (a : Nat) : Bool := decide (W.rhi a < cntR l (a : Int)) || (b && decide (cntR l (a : Int) < W.rlo a))
theorem keptB_bad (W : Wt) (l : Lot) (b : Bool) : keptB W l b = ((List.range W.n).all (fun a => !badA W l b a) && (List.range W.m).all (fun r => !badRm W l b r)) := rfl
theorem ok_kept {f : Addr} {fd : FuncData} (F : Fun K "_law_kept" "_law_kept" sKept f fd) (rg : mg "range" = none) (ln : mg "len" = none) : FnOk P w K mg base CX0 1 f fd ["_law_lot", "_law_askers", "_law_rooms", "_law_least"] spKept := by
  refine F.ok scKept (fun vs H Q E h => ?_) (fun cdv A outer s H vs Q E hr h => ?_)
  · obtain ⟨B, vl, va, vr, W, l, b, rfl, _⟩ := h
    rfl
  · obtain ⟨B, vl, va, vr, W, l, b, rfl, tk, hl, ha, hr', hlen, hn, hm, hll, k⟩ := h
    have e1 : W.n = W.lists.length := rfl
    have e2 : W.m = W.rooms.length := rfl
    refine ⟨_, pss_S, ?_⟩
    -- the askers
    refine ss_cons (s_for (B := B) (xs := rangeD W.n) tk PassesOwn.never rfl (ei_range rfl rg (EV.to (ev_len rfl ln (ev_var 1 (hd := ha)) (.inl rfl)) (d' := .int (W.n : Int)) (by rw [List.length_map, hlen]; rfl)) (by omega)) fun H1 g1 => ⟨.nm 4, fun i σ' H' => ∃ (o o' o2 : Option V), σ' = [some vl, some va, some vr, some (.bl b), o, o', o2] ∧ Gr B H1 H' ∧ (∀ a, a < i → badA W l b a = false), eg_cn scKept.nd rfl (.inr rfl) (.inl rfl), fun _ _ => True.intro,
      ⟨none, none, none, rfl, g1.self, fun a h => by omega⟩, fun i σ' H' _ ⟨_, _, _, _, g3, _⟩ => g3.x, ?_, ?_⟩)
    · rintro i d σ' H' H3 σ2 hd ⟨o, o', o2, rfl, g2, hb⟩ g3 ⟨u, rfl, hu⟩
      obtain ⟨hin, rfl⟩ := rangeD_at hd
      rw [hu.int_eq]
      have g13 := g1.trans (g2.trans g3)
      have hl3 := hl.mono g13
      have ha3 := ha.mono g13
      have hA : (W.askers.map pD)[i]? = some (pD (W.alo i, W.ahi i)) := by
        rw [List.getElem?_map, List.getElem?_eq_getElem (by omega)]
        unfold Wt.alo Wt.ahi
        rw [List.getD_eq_getElem?_getD, List.getElem?_eq_getElem (by omega)]
        rfl
      -- count = len([..])
      refine ss_cons (s_set 5 scKept.nd (EV.go (B := B) g3.tk (EV.to (ev_len rfl ln (ev_lc (own := [("_law_pair", 6)]) (pat := .nm 6) (xs := l.map pD) (outs := oA (i : Int)) (ei_tup (ev_var 0 (hd := hl3))) (by rw [List.length_map]; omega) rfl scKept.nd (blk_by (N := nKept) (sc := defScope sKept) (by decide +kernel)) (eg_bn scKept.nd) (fun d _ => True.intro) ?_ ?_) (.inl rfl)) (congrArg PyData.int (oA_len l i))) fun v4 H4 g4 hv4 => ?_))
      · intro d hd d' hd'
        obtain ⟨q, _, rfl⟩ := List.mem_map.mp hd
        have hd' : (if decide (q.1 = (i : Int)) = true then some (PyData.int 1) else none) = some d' := hd'
        split at hd'
        · cases hd'; exact .int _
        · cases hd'
      · intro d hd H6 σ3 g6 hput
        obtain ⟨q, _, rfl⟩ := List.mem_map.mp hd
        obtain ⟨u6, rfl, hu6⟩ := hput
        refine ⟨rfl, item_if (fun C' hC' => ?_) fun _ C' hC' => ?_⟩
        · obtain ⟨s', H', c, cl, fp, rfl⟩ := hC'
          exact et_cmp co_eqI (ev_ix (ev_var 6 (hd := hu6)) (.inr rfl) ev_int (k := 0) rfl rfl) (ex_var 4).int
        · obtain ⟨s', H', c, cl, fp, rfl⟩ := hC'
          exact ev_int
      rw [hv4.int_eq]
      have ha4 := ha3.mono g4
      have g24 := g2.trans (g3.trans g4)
      -- if count > askers[k][1] or (least and count < askers[k][0]): return False
      refine ss_cons (s_if (ET.go (B := B) (b := badA W l b i) g4.tk (et_or (et_cmp co_gt (ex_var 5).int (ev_ix (ev_ix (ev_var 1 (hd := ha4)) (.inl rfl) (ex_var 4).int rfl hA) (.inr rfl) ev_int (k := 1) rfl rfl)) fun _ => et_and (et_val (EVP.bool (ex_var 3))) fun _ => et_cmp co_lt (ex_var 5).int (ev_ix (ev_ix (ev_var 1 (hd := ha4)) (.inl rfl) (ex_var 4).int rfl hA) (.inr rfl) ev_int (k := 0) rfl rfl)) fun H5 g5 => ⟨fun z => ?_, fun z => ?_⟩))
      · refine ss_cons (s_ret (EV.go (B := B) g5.tk ev_bl fun v6 H6 g6 hv6 => ?_))
        rw [hv6.bl_eq]
        have : keptB W l b = false := by
          rw [keptB_bad]
          have : (List.range W.n).all (fun a => !badA W l b a) = false := by
            rw [List.all_eq_false]
            exact ⟨i, List.mem_range.mpr hin, by rw [z]; decide⟩
          rw [this]
          rfl
        have q := k H6 (g1.trans (g24.trans (g5.trans g6)))
        rw [this] at q
        exact q
      · refine ss_nil (ss_nil ⟨_, _, _, rfl, g24.trans g5, fun a ha => ?_⟩)
        by_cases e : a = i
        · rw [e]; exact z
        · exact hb a (by omega)
    · rintro σ' H' ⟨o, o', o2, rfl, g2, hb⟩
      have hrl : ∀ n : Nat, (rangeD n).length = n := fun n => by unfold rangeD; rw [List.length_map, List.length_range]
      rw [hrl] at hb
      have g12 := g1.trans g2
      have hr2 := hr'.mono g12
      -- the rooms
      refine ss_cons (s_for (B := B) (xs := rangeD W.m) g2.tk PassesOwn.never rfl (ei_range rfl rg (EV.to (ev_len rfl ln (ev_var 2 (hd := hr2)) (.inl rfl)) (d' := .int (W.m : Int)) (by rw [List.length_map]; rfl)) (by omega)) fun H3 g3 => ⟨.nm 4, fun i σ' H' => ∃ (o o' o2 : Option V), σ' = [some vl, some va, some vr, some (.bl b), o, o', o2] ∧ Gr B H3 H' ∧ (∀ a, a < i → badRm W l b a = false), eg_cn scKept.nd rfl (.inr rfl) (.inl rfl), fun _ _ => True.intro,
        ⟨_, _, _, rfl, g3.self, fun a h => by omega⟩, fun i σ' H' _ ⟨_, _, _, _, g3, _⟩ => g3.x, ?_, ?_⟩)
      · rintro i d σ' H' H5 σ2 hd ⟨o, o', o2, rfl, g4, hb2⟩ g5 ⟨u, rfl, hu⟩
        obtain ⟨hin, rfl⟩ := rangeD_at hd
        rw [hu.int_eq]
        have g15 := g12.trans (g3.trans (g4.trans g5))
        have hl5 := hl.mono g15
        have hr5 := hr'.mono g15
        have hA : (W.rooms.map pD)[i]? = some (pD (W.rlo i, W.rhi i)) := by
          rw [List.getElem?_map, List.getElem?_eq_getElem (by omega)]
          unfold Wt.rlo Wt.rhi
          rw [List.getD_eq_getElem?_getD, List.getElem?_eq_getElem (by omega)]
          rfl
        refine ss_cons (s_set 5 scKept.nd (EV.go (B := B) g5.tk (EV.to (ev_len rfl ln (ev_lc (own := [("_law_pair", 6)]) (pat := .nm 6) (xs := l.map pD) (outs := oB (i : Int)) (ei_tup (ev_var 0 (hd := hl5))) (by rw [List.length_map]; omega) rfl scKept.nd (blk_by (N := nKept) (sc := defScope sKept) (by decide +kernel)) (eg_bn scKept.nd) (fun d _ => True.intro) ?_ ?_) (.inl rfl)) (congrArg PyData.int (oB_len l i))) fun v6 H6 g6 hv6 => ?_))
        · intro d hd d' hd'
          obtain ⟨q, _, rfl⟩ := List.mem_map.mp hd
          have hd' : (if decide (q.2 = (i : Int)) = true then some (PyData.int 1) else none) = some d' := hd'
          split at hd'
          · cases hd'; exact .int _
          · cases hd'
        · intro d hd H6 σ3 g6 hput
          obtain ⟨q, _, rfl⟩ := List.mem_map.mp hd
          obtain ⟨u6, rfl, hu6⟩ := hput
          refine ⟨rfl, item_if (fun C' hC' => ?_) fun _ C' hC' => ?_⟩
          · obtain ⟨s', H', c, cl, fp, rfl⟩ := hC'
            exact et_cmp co_eqI (ev_ix (ev_var 6 (hd := hu6)) (.inr rfl) ev_int (k := 1) rfl rfl) (ex_var 4).int
          · obtain ⟨s', H', c, cl, fp, rfl⟩ := hC'
            exact ev_int
        rw [hv6.int_eq]
        have hr6 := hr5.mono g6
        have g46 := g4.trans (g5.trans g6)
        refine ss_cons (s_if (ET.go (B := B) (b := badRm W l b i) g6.tk (et_or (et_cmp co_gt (ex_var 5).int (ev_ix (ev_ix (ev_var 2 (hd := hr6)) (.inl rfl) (ex_var 4).int rfl hA) (.inr rfl) ev_int (k := 1) rfl rfl)) fun _ => et_and (et_val (EVP.bool (ex_var 3))) fun _ => et_cmp co_lt (ex_var 5).int (ev_ix (ev_ix (ev_var 2 (hd := hr6)) (.inl rfl) (ex_var 4).int rfl hA) (.inr rfl) ev_int (k := 0) rfl rfl)) fun H7 g7 => ⟨fun z => ?_, fun z => ?_⟩))
        · refine ss_cons (s_ret (EV.go (B := B) g7.tk ev_bl fun v8 H8 g8 hv8 => ?_))
          rw [hv8.bl_eq]
          have : keptB W l b = false := by
            rw [keptB_bad]
            have : (List.range W.m).all (fun a => !badRm W l b a) = false := by
              rw [List.all_eq_false]
              exact ⟨i, List.mem_range.mpr hin, by rw [z]; decide⟩
            rw [this, Bool.and_false]
          have q := k H8 (g12.trans (g3.trans (g46.trans (g7.trans g8))))
          rw [this] at q
          exact q
        · refine ss_nil (ss_nil ⟨_, _, _, rfl, g46.trans g7, fun a ha => ?_⟩)
          by_cases e : a = i
          · rw [e]; exact z
          · exact hb2 a (by omega)
      · rintro σ' H' ⟨o, o', o2, rfl, g4, hb2⟩
        rw [hrl] at hb2
        refine ss_cons (s_ret (EV.go (B := B) g4.tk ev_bl fun v8 H8 g8 hv8 => ?_))
        rw [hv8.bl_eq]
        have : keptB W l b = true := by
          rw [keptB_bad, Bool.and_eq_true, List.all_eq_true, List.all_eq_true]
          exact ⟨fun a ha => by rw [hb a (List.mem_range.mp ha)]; rfl, fun a ha => by rw [hb2 a (List.mem_range.mp ha)]; rfl⟩
        have q := k H8 (g12.trans (g3.trans (g4.trans g8)))
        rw [this] at q
        exact q
end
end K22
end
section
set_option Elab.async false
set_option linter.all false
set_option maxRecDepth 100000
set_option maxHeartbeats 4000000
/-! K22LawC: _law_rounds. -/
namespace K22
open PySem PySem.Spec PyProof.Rows L2 NdefX Pm
section
variable {P : Program} {w : World} {K : PySem.W.Frag} {mg : Str → Option Value} {base : Heap} {fD : Addr} {fdD : FuncData}
def spRounds (K : PySem.W.Frag) : Sp := fun vs H Q _ => ∃ (B : Amb) (a : Addr) (ns : List Int), vs = [.ref a, .int 1] ∧ TK B H ∧ SqL K H a (ns.map V.int) ∧ ∀ H' v x y z, Gr B H H' → Is B.X H' v (.list [diceD x y z]) → Q v H'
abbrev nRounds : List Str := ["_law_script", "_law_count_of", "_law_cells", "_law_cell"]
theorem scRounds : FnScope nRounds ["_law_script", "_law_count_of"] (defScope sRounds) := ⟨rfl, rfl, rfl, by decide +kernel, rfl, by decide +kernel, by decide +kernel⟩
theorem cut_one (ns : List Int) : ∃ ks : List Int, cutV (ns.map V.int) none (some 1) = ks.map V.int ∧ (ks = [] ∨ ∃ c, ks = [c]) := by
  refine ⟨(ns.drop 0).take (min 1 ns.length), ?_, ?_⟩
  · unfold cutV
    rw [show (some (1 : Int)) = some ((1 : Nat) : Int) from rfl, HT.sIx_nat, HT.sIx_none, List.length_map, Nat.sub_zero, List.map_take, List.map_drop]
  · rw [List.drop_zero]
    cases ns with
    | nil => exact .inl rfl
    | cons n ns =>
      refine .inr ⟨n, ?_⟩
      have : min 1 (n :: ns).length = 1 := by rw [List.length_cons]; omega
      rw [this]
      rfl
theorem ok_rounds {f : Addr} {fd : FuncData} (F : Fun K "_law_rounds" "_law_rounds" sRounds f fd) (FD : Fun K "_law_dice" "_law_dice" sDice fD fdD) (bD : Binds K fdD ["_law_cell"] []) (gD : mg "_law_dice" = some (.ref fD)) (ni : mg "int" = none) (na : mg "abs" = none) : FnOk P w K mg base CX0 2 f fd ["_law_script", "_law_count_of"] (spRounds K) := by
  refine F.ok scRounds (fun vs H Q E h => ?_) (fun cdv A outer s H vs Q E hr h => ?_)
  · obtain ⟨B, a, ns, rfl, _⟩ := h
    rfl
  · obtain ⟨B, a, ns, rfl, tk, hS, k⟩ := h
    have hu64 := hr.units
    refine ⟨_, pss_S, ?_⟩
    -- cells = script[:count_of]
    obtain ⟨ks, ek, hks⟩ := cut_one ns
    refine ss_cons (s_set 2 scRounds.nd (of_pe (pe_slice sl_list (pv 0) po_none (po_some (pv 1))) ⟨_, rfl, _, rfl, _, rfl, a, _, rfl, hS, fun p hp => ?_⟩))
    rw [ek]
    have g1 := Gr.new (o := .lst (ks.map V.int)) tk hp
    have i1 : Is B.X (upd H p (.lst (ks.map V.int))) (.ref p) (.list (iD ks)) := .lst upd_same (tk.notX hp) (by rw [List.length_map, iD_len]) (ints_iss ks).2
    generalize upd H p (.lst (ks.map V.int)) = H1 at g1 i1
    -- if cells == []: cells = [0]
    refine ss_if (fun σ' H' => ∃ (v : V) (c : Int), σ' = [some (.ref a), some (.int 1), some v, none] ∧ Gr B H H' ∧ Is B.X H' v (.list (iD [c]))) (ET.go (B := B) (b := decide (ks = [])) g1.tk (ET.to (et_cmp (co_eq hu64 ((pl_list pl_iD).shaped (by decide)) ((pl_list (n := 0) fun d hd => by cases hd).shaped (by decide))) (ev_var 2 (hd := i1)) (ev_lst ea_nil (by show 0 ≤ sizeLine; decide))) (eqv_lists (f := PyData.int) eqv_int ks [])) fun H2 g2 => ⟨fun z => ?_, fun z => ?_⟩) ?_
    · refine ss_cons (s_set 2 scRounds.nd (EV.go (B := B) g2.tk (ev_lst (ea_cons ev_int ea_nil) (by show 1 ≤ sizeLine; decide)) fun v3 H3 g3 hv3 => ss_nil ⟨v3, 0, rfl, g1.trans (g2.trans g3), hv3⟩))
    · rcases hks with e | ⟨c, e⟩
      · rw [e] at z; simp at z
      · subst e
        exact ss_nil ⟨_, c, rfl, g1.trans g2, i1.mono g2⟩
    · rintro σ' H' ⟨v, c, rfl, g3, i3⟩
      -- return [_law_dice(cell) for cell in cells]
      refine ss_cons (s_ret (t_lcX (B := B) (S := []) (Inv := fun _ => True) (R := fun ds os => (ds = [] ∧ os = []) ∨ ∃ x y z, ds = [.int c] ∧ os = [diceD x y z]) (own := [("_law_cell", 3)]) (pat := .nm 3) (xs := iD [c]) g3.tk (ei_list (ev_var 2 (hd := i3))) (fun a ha => nomatch ha) (by show 1 ≤ 1000000; decide) rfl scRounds.nd (blk_nf (N := nRounds) (by decide +kernel)) (fun B' => eg_bn scRounds.nd) (fun _ _ => True.intro) (fun d hd => by rw [List.mem_singleton.mp hd]; exact .int _)
        (.inl ⟨rfl, rfl⟩) True.intro (fun _ _ _ _ => True.intro) (fun _ _ _ _ _ => True.intro) ?_ ?_))
      · rintro L hL hLX i d hd o hR H4 σ2 w4 _ ⟨u, rfl, hu⟩
        have h0 : i = 0 ∧ d = .int c := by
          cases i with
          | zero => exact ⟨rfl, (Option.some.inj hd).symm⟩
          | succ i => exact absurd hd (by show ([] : List PyData)[i]? ≠ some d; simp)
        obtain ⟨rfl, rfl⟩ := h0
        have ho : o = [] := by
          rcases hR with ⟨_, e⟩ | ⟨x, y, z, e, _⟩
          · exact e
          · cases e
        subst ho
        rw [hu.int_eq]
        refine ⟨rfl, turn_all fun Q q C' hC' => ?_⟩
        obtain ⟨s', H', cc, cl, fp, rfl⟩ := hC'
        refine of_pe (pe_call (ok_dice FD ni na) (hr.mono (by decide)) rfl gD FD.kp bD .nil pass0 (pa_cons (pv 3) pa_nil)) ⟨_, rfl, ⟨B.plus [L], c, rfl, w4.tk, fun H5 v5 x y z g5 h5 => ?_⟩⟩
        exact q v5 (diceD x y z) H5 g5.w True.intro h5 (.inr ⟨x, y, z, rfl, rfl⟩)
      · intro v5 H5 ds w5 _ hR h5
        have g5 : Gr B H' H5 := ⟨fun a o e n => w5.keep a o e n (fun z => nomatch z), w5.tk, w5.dom⟩
        rcases hR with ⟨e, _⟩ | ⟨x, y, z, _, e⟩
        · cases e
        · subst e
          exact k H5 v5 x y z (g3.trans g5) h5
end
end K22
end
section
set_option Elab.async false
set_option linter.all false
set_option maxRecDepth 100000
set_option maxHeartbeats 4000000
/-! K22Lam: lambdas without parameters, kept as values and called later by _law_told. -/
namespace K22
open PySem PySem.Spec PyProof.Rows L2 LamX NdefX Pm
/-- the object at f is a lambda of these words -/
def LamO (f : Addr) (q : Str) (params : Arguments) (body : Expr) (scope : Scope) (cl : List (Str × Addr)) (c : Addr) : HO := .ext fun h => ∃ pm ctv : Value, h.get? f = some (PySem.W.kla_obj "<lambda>" q params body scope cl pm c ctv)
theorem lamO_ne {f c : Addr} {q : Str} {params : Arguments} {body : Expr} {scope : Scope} {cl : List (Str × Addr)} (ps : Array Value) : LamO f q params body scope cl c ≠ .tbl ps := fun z => by
  unfold LamO at z
  cases z
section
variable {X : Cx} {pins : List (Addr × Obj)} {σ : L2.St} {H : Hp} {s : Shared}
/-- a lambda's object just made is known from now on -/
theorem inv_lam {q : Str} {params : Arguments} {body : Expr} {scope : Scope} {cl : List (Str × Addr)} {pm ctv : Value} {c : Addr} {t' : Nat} (I : Inv X pins σ H s) :
    Inv X pins σ (upd H s.heap.objs.size (LamO s.heap.objs.size q params body scope cl c)) { s with heap := s.heap.push (PySem.W.kla_obj "<lambda>" q params body scope cl pm c ctv), toks := t' } := by
  refine I.laid (a := s.heap.objs.size) (fun b u e => Heap.get?_push_of_some _ e) (Nat.le_refl _) ?_
  have e : (s.heap.push (PySem.W.kla_obj "<lambda>" q params body scope cl pm c ctv)).get? s.heap.objs.size = some (PySem.W.kla_obj "<lambda>" q params body scope cl pm c ctv) := Heap.get?_push_size _ rfl
  exact ⟨⟨pm, ctv, e⟩, ⟨_, e⟩, fun h1 h2 ⟨p, t, z⟩ st => ⟨p, t, st _ z⟩⟩
/-- the lambda is made and known -/
theorem lam_make3 {T : List (Addr × Str)} {c P : Addr} {params : Arguments} {body : Expr} {scope : Scope} {pos : Pos} {E : Value → Shared → Prop} {Q : Value → Shared → Prop} (I : Inv X pins σ H s) (TB : LamX.TabB X.base X.mg c P) (hcode : X.env.code = .ref c)
    (hm : (P, X.env.qual ++ "<lambda>") ∈ T) (hu : ∀ p ∈ T, p.1 = P → p.2 = X.env.qual ++ "<lambda>") (hT : Tabs T H) (hdef : defaultsOf params X.env = ([], [])) (hfree : ∀ y ∈ scope.names, y.2 = .free → ∃ c, X.env.cells.lookup y.1 = some c)
    (h : ∀ (f c' : Addr) (H1 : Hp) (s' : Shared), Inv X pins σ H1 s' → ExtN H H1 → (∀ b o, H b = some o → b ≠ P → H1 b = some o) → (∀ b, H1 b = none → H b = none) → Tabs T H1 → H f = none →
      H1 f = some (LamO f (X.env.qual ++ "<lambda>") params body scope (cloFrom X.env.cells scope.names []) c') → H1 c' = some (CodeO c' (X.env.qual ++ "<lambda>")) → Q (.ref f) s') :
    wpAny (model X.prog X.w) X.A (eval (.Lambda params body scope pos) X.env) Q E s := by
  obtain ⟨ps, hP, ht, ha⟩ := hT _ hm
  refine PySem.W.kla_eval hdef ?_
  have bP : s.heap.BuiltinsAt X.mg P := TB.bm.keeps I.bk
  have hP' : s.heap.get? P = some { cls := .none, data := .fields ps } := I.hok P _ hP
  cases hc : codeAmong pos ps.toList with
  | none =>
    refine PySem.W.kla_makeFunction (mg := X.mg) (c := c) (P := P) (ps := ps) (closure_ok hfree) I.ok.glob (I.mod.glob.keeps I.bk) hcode (TB.code.keeps I.bk) hP' ht hc TB.gP bP fun c' ctv h' tk hx hge hlt hrec htb => ?_
    obtain ⟨c2, oc, vs, t, e2, hoc, hd, hv⟩ := hrec
    cases e2
    have nC : H c' = none := I.hok.fresh hge
    have I1 := LamX.inv_table (t' := tk) (more := #[rawInt pos.line, rawInt pos.col, .ref c']) (h' := h') I hP (fun b o hb e => hx b o hb e) htb hge ⟨oc, vs, t, hoc, hd, hv⟩
    have hE : ExtN H (upd (upd H P (.tbl (ps ++ #[rawInt pos.line, rawInt pos.col, .ref c']))) c' (CodeO c' (X.env.qual ++ "<lambda>"))) := fun b o e n => by
      rw [upd_ne (ne_of_none e nC), upd_ne (fun z => n ps (Option.some.inj (e.symm.trans (by rw [z]; exact hP))))]
      exact e
    have eL : (ps ++ #[rawInt pos.line, rawInt pos.col, .ref c']).toList = ps.toList ++ [rawInt pos.line, rawInt pos.col, .ref c'] := by simp
    have T1 : Tabs T (upd (upd H P (.tbl (ps ++ #[rawInt pos.line, rawInt pos.col, .ref c']))) c' (CodeO c' (X.env.qual ++ "<lambda>"))) := fun p hp => by
      by_cases hb : p.1 = P
      · rw [hu p hp hb, hb]
        refine ⟨_, by rw [upd_ne (ne_of_none hP nC), upd_same], by rw [eL]; exact PySem.TriplesOk_snoc _ _ _ _ ht, fun p' cv hcv => ?_⟩
        rw [eL] at hcv
        rcases among_app _ ht hcv with z | z
        · obtain ⟨c0, e1, e2⟩ := ha p' cv z
          exact ⟨c0, e1, hE _ _ e2 LamX.codeO_ne⟩
        · exact ⟨c', z, upd_same⟩
      · obtain ⟨ps', a1, a2, a3⟩ := hT p hp
        refine ⟨ps', by rw [upd_ne (ne_of_none a1 nC), upd_ne hb]; exact a1, a2, fun p' cv hcv => ?_⟩
        obtain ⟨c0, e1, e2⟩ := a3 p' cv hcv
        exact ⟨c0, e1, hE _ _ e2 LamX.codeO_ne⟩
    have nF := I1.hok.fresh (Nat.le_refl _)
    have I2 := inv_lam (q := X.env.qual ++ "<lambda>") (params := params) (body := body) (scope := scope) (cl := cloFrom X.env.cells scope.names []) (pm := (X.mg "__name__").getD .none) (ctv := ctv) (c := c') (t' := tk) I1
    refine h h'.objs.size c' _ _ I2 (fun b o e n => ?_) (fun b o e n => ?_) (fun b e => upd_none (upd_none (upd_none e))) (T1.ext fun b o e => ?_) (I.hok.fresh (Nat.le_trans hge (Nat.le_of_lt hlt))) upd_same ?_
    · have e1 := hE b o e n
      exact (upd_ne (ne_of_none e1 nF)).trans e1
    · have e1 : upd (upd H P (.tbl (ps ++ #[rawInt pos.line, rawInt pos.col, .ref c']))) c' (CodeO c' (X.env.qual ++ "<lambda>")) b = some o := by
        rw [upd_ne (ne_of_none e nC), upd_ne n]
        exact e
      exact (upd_ne (ne_of_none e1 nF)).trans e1
    · exact (upd_ne (ne_of_none e nF)).trans e
    · exact (upd_ne (Nat.ne_of_lt hlt)).trans upd_same
  | some cv =>
    obtain ⟨c', e, hco⟩ := ha pos cv hc
    subst e
    refine PySem.W.kla_makeFunctionHit (mg := X.mg) (c := c) (P := P) (ps := ps) (closure_ok hfree) I.ok.glob (I.mod.glob.keeps I.bk) hcode (TB.code.keeps I.bk) hP' ht hc bP fun ctv h' tk hx hsz => ?_
    have I1 : Inv X pins σ H { s with heap := h', toks := tk } := I.kept fun b o e => hx b o e
    have nF := I1.hok.fresh (Nat.le_refl _)
    have I2 := inv_lam (q := X.env.qual ++ "<lambda>") (params := params) (body := body) (scope := scope) (cl := cloFrom X.env.cells scope.names []) (pm := (X.mg "__name__").getD .none) (ctv := ctv) (c := c') (t' := tk) I1
    exact h h'.objs.size c' _ _ I2 (fun b o e _ => (upd_ne (ne_of_none e nF)).trans e) (fun b o e _ => (upd_ne (ne_of_none e nF)).trans e) (fun b e => upd_none e) (hT.ext fun b o e => (upd_ne (ne_of_none e nF)).trans e) (I.hok.fresh hsz) upd_same ((upd_ne (ne_of_none hco nF)).trans hco)
end
end K22
end
section
set_option Elab.async false
set_option linter.all false
set_option maxRecDepth 100000
set_option maxHeartbeats 4000000
/-! K22LcF: a list comprehension at one state, its block's readings asked only where the outer context's facts hold at the block's entry (follows HandS.Comp's rule, whose readings are asked for every entry). -/
namespace K22
open PySem PySem.Spec PyProof.Rows L2 LamX NdefX Pm
section
variable {X : Cx}
/-- what is known where the block begins -/
def EntryF (X : Cx) (pins : List (Addr × Obj)) (σ : L2.St) (s : Shared) (H : Hp) (fp : List Addr) : Prop := Inv X pins σ H s ∧ ∀ b ∈ fp, FpOk X pins H b ∧ b < s.heap.objs.size
theorem run_lcF {pins : List (Addr × Obj)} {s : Shared} {σ : L2.St} {H : Hp} {Q : VK} {elt tg iter : Expr} {ifs : List Expr} {scope : Scope} {own : List (Str × Nat)} {pos : Pos} {wi : TI} {g : TG} {tt : TT} {te : TE}
    (hc : X.calm = true) (hN : X.N.Nodup) (I : Inv X pins σ H s) (hi : PI X tg iter wi) (ok : BlkOk X.N X.env.scope scope own)
    (hg : ∀ (s : Shared) (H : Hp) (C : Addr) (cl : List (Str × Addr)) (fp : List Addr), EntryF X pins σ s H fp → PG (X.blk s H scope (compEnvC scope cl C X.env) fp) tg g) (ht : ∀ (s : Shared) (H : Hp) (C : Addr) (cl : List (Str × Addr)) (fp : List Addr), EntryF X pins σ s H fp → PTs (X.blk s H scope (compEnvC scope cl C X.env) fp) ifs tt)
    (he : ∀ (s : Shared) (H : Hp) (C : Addr) (cl : List (Str × Addr)) (fp : List Addr), EntryF X pins σ s H fp → PE (X.blk s H scope (compEnvC scope cl C X.env) fp) elt te) (hs : ∀ x, foldedSetIterable iter X.env x = pure x)
    (h : tLc wi g tt te (own.map (·.2)) σ H Q) : wpAny (model X.prog X.w) X.A (eval (.ListComp elt [⟨tg, iter, ifs, 0⟩] scope pos) X.env) (EP X pins σ Q) X.xe s := by
  rw [eval_ListComp]
  have hfree : ∀ y ∈ scope.names, y.2 = .free → ∃ c, X.env.cells.lookup y.1 = some c := fun y hy e => (ok.free y hy e).elim (fun k => I.ok.has _ (.inl k)) fun k => I.ok.has _ (.inr k)
  refine wpAny_comprehension_free (use := none) rfl hs (closure_ok hfree) ok.kind (fun y hy e => by rw [ok.uniq y hy, e])
    (thn (hi.run pins s σ H _ I h) fun xv s1 hx => thn hx fun itv s2 h2 => ?_)
  obtain ⟨it, fp, tn, J, H2, rfl, I2, T, st2, f2, q⟩ := h2
  refine wpAny_newObj_type (newEnv_comp ?_) (by show 0 ≤ sizeLine; decide)
  obtain ⟨D, hD⟩ : ∃ D, s2.heap.objs.size = D := ⟨_, rfl⟩
  rw [hD]
  have hDn : H2 D = none := I2.hok.fresh (Nat.le_of_eq hD)
  obtain ⟨W, ⟨m0, w0⟩, turn⟩ := q D hDn
  obtain ⟨s3, hs3⟩ : ∃ s3 : Shared, ({ s2 with heap := s2.heap.push { cls := .type "list", data := .seq ([] : List Value).toArray } } : Shared) = s3 := ⟨_, rfl⟩
  rw [hs3]
  have h3 : s3.heap = s2.heap.push { cls := .type "list", data := .seq ([] : List Value).toArray } := by rw [← hs3]
  have I3 : Inv X pins σ (upd H2 D (.lst [])) s3 := by
    rw [← hs3]
    refine I2.laid (t' := s2.toks) (fun b o e => Heap.get?_push_of_some _ e) (Nat.le_of_eq hD) ⟨Nat.zero_le _, [], 0, .nil, ?_⟩
    rw [← hD]
    exact Heap.get?_push_size _ rfl
  have f3 : ∀ b ∈ fp, FpOk X pins (upd H2 D (.lst [])) b ∧ b < s3.heap.objs.size := fun b hb => by
    obtain ⟨o, e, _⟩ := T.obj _ _ st2 b hb
    have hlt := Heap.lt_size e
    refine ⟨⟨?_, (f2 b hb).2⟩, by rw [h3, Heap.size_push]; exact Nat.lt_succ_of_lt hlt⟩
    rw [upd_ne (by rw [← hD]; exact Nat.ne_of_lt hlt)]
    exact (f2 b hb).1
  have st3 : tn 0 s3.heap := T.keep _ _ _ st2 fun b _ o e => by rw [h3]; exact Heap.get?_push_of_some _ e
  have ent : EntryF X pins σ s3 (upd H2 D (.lst [])) fp := ⟨I3, f3⟩
  have I4 := block_start I3 ok hN f3
  have pg := hg s3 _ s3.heap.objs.size (cellsFrom (s3.heap.objs.size + 1) scope.names (cloFrom X.env.cells scope.names [])) fp ent
  have pt := ht s3 _ s3.heap.objs.size (cellsFrom (s3.heap.objs.size + 1) scope.names (cloFrom X.env.cells scope.names [])) fp ent
  have pe := he s3 _ s3.heap.objs.size (cellsFrom (s3.heap.objs.size + 1) scope.names (cloFrom X.env.cells scope.names [])) fp ent
  show codeAny _ _ (.compStart (.ListComp elt [⟨tg, iter, ifs, 0⟩] scope pos) 0 (.ref it) (.ref D) (compEnvC scope (cellsFrom (s3.heap.objs.size + 1) scope.names (cloFrom X.env.cells scope.names [])) s3.heap.objs.size X.env)) (compPost (model X.prog X.w) X.A X.xe none (EP X pins σ Q) (.ref D) s3.heap.objs.size) { s3 with heap := pushCells (s3.heap.push { cls := .type "dict", data := .dict #[] }) scope.names }
  have nfp : ∀ b ∈ fp, (upd H2 D (.lst [])) b = none := fun b hb => (f3 b hb).1.1
  generalize hce : compEnvC scope (cellsFrom (s3.heap.objs.size + 1) scope.names (cloFrom X.env.cells scope.names [])) s3.heap.objs.size X.env = ce at I4 pg pt pe ⊢
  have cL : ce.locals = s3.heap.objs.size := by subst hce; rfl
  generalize hH3 : upd H2 D (.lst []) = H3 at I3 I4 pg pt pe w0 nfp f3
  generalize hs4 : ({ s3 with heap := pushCells (s3.heap.push { cls := .type "dict", data := .dict #[] }) scope.names } : Shared) = s4 at I4 ⊢
  have st4 : tn 0 s4.heap := T.keep _ _ _ st3 fun b _ o e => by rw [← hs4]; exact pushCells_keeps _ _ _ _ (Heap.get?_push_of_some _ e)
  have stat : ∀ {σ' : L2.St} {H' : Hp} {s' : Shared}, Inv (X.blk s3 H3 scope ce fp) [] σ' H' s' → (∀ b ∈ fp, H' b = none) → ∀ b ∈ fp, FpOk (X.blk s3 H3 scope ce fp) [] H' b := fun {σ' H' s'} I' hn b hb =>
    ⟨hn b hb, (I'.ok.exf b hb).1, I'.ok.exfs b hb, .inl hb, fun x c e => (I'.ok.exf b hb).2 x c e, fun p hp => absurd (show p ∈ ([] : List (Addr × Obj)) ++ [] from hp) (by simp)⟩
  have loop : codeAny (model X.prog X.w) X.A (.compLoop (.ListComp elt [⟨tg, iter, ifs, 0⟩] scope pos) 0 (.ref it) (.ref D) ce) (compPost (model X.prog X.w) X.A X.xe none (EP X pins σ Q) (.ref D) s3.heap.objs.size) s4 := by
    refine compLoop_any (fun n s' => ∃ i H', Inv (X.blk s3 H3 scope ce fp) [] (wipe σ (own.map (·.2))) H' s' ∧ tn i s'.heap ∧ (∀ b ∈ fp, H' b = none) ∧ W i n H') ?_ m0 ⟨0, H3, I4, st4, nfp, w0⟩
    rintro n s5 ⟨i, H5, I5, st5, n5, w5⟩
    rcases turn i n H5 w5 with ⟨stop, qq⟩ | ⟨go, Nx, hNx, step⟩
    · refine thnF (T.done (X.blk s3 H3 scope ce fp) rfl rfl rfl hc i [] s5 _ H5 (fun _ _ => False) I5 (stat I5 n5) st5 stop) fun r s6 ⟨hr, I6⟩ => ?_
      subst hr
      have I7 : Inv X pins σ H5 s6 := I3.call' (ch := fp) I6.os I6.base I6.hok I6.bare fun b hb => ⟨(f3 b hb).1.2.2.2.1, (f3 b hb).1.2.1, (f3 b hb).1.2.2.2.2.1, (f3 b hb).1.2.2.2.2.2⟩
      have nC : H5 s3.heap.objs.size = none := by
        have z : H5 ce.locals = none := I6.free
        rw [cL] at z
        exact z
      obtain ⟨m, hn, _⟩ := I6.loc
      have hn : s6.heap.Ns ce.locals m := hn
      rw [cL] at hn
      obtain ⟨x0, x1, x2, x3, x4, x5⟩ := I3.fpOk (Nat.le_refl _) nC
      exact ⟨m, hn, fun h'' sb => ⟨.ref D, H5, I7.turned (t' := s6.toks) (fun b o hb e => (sb.2 b hb).trans e) x0 x1 x3 x4 x5, rfl, qq⟩⟩
    · refine thnF (T.item (X.blk s3 H3 scope ce fp) rfl rfl rfl hc i [] s5 _ H5 (fun _ _ => False) I5 (stat I5 n5) st5 go) fun r s6 ⟨u, hr, h6⟩ => ?_
      subst hr
      refine thnF h6 fun _ s7 ⟨x, H7, I7, r7, y7, st7, n7⟩ => ?_
      refine thnF (pg.run _ s7 _ H7 x u _ (I7.pinned (stat I7 n7) (T.obj _ _ st7)) r7 (step x H7 y7)) fun _ s8 ⟨σ8, H8, I8, hw8, q8⟩ => ?_
      refine thnF (pt.run _ s8 σ8 H8 _ I8 q8) fun b s9 ⟨H9, I9, q9⟩ => ?_
      have fin : ∀ {s' : Shared} {H' : Hp}, Inv (X.blk s3 H3 scope ce fp) ([] ++ pinsAt fp s7.heap) σ8 H' s' → Nx H' → ∃ m, m < n ∧ ∃ i H', Inv (X.blk s3 H3 scope ce fp) [] (wipe σ (own.map (·.2))) H' s' ∧ tn i s'.heap ∧ (∀ b ∈ fp, H' b = none) ∧ W i m H' := fun {s' H'} I' nx => by
        obtain ⟨m', hm, w'⟩ := hNx H' nx
        have pin' : ∀ b ∈ fp, ∀ o, s7.heap.get? b = some o → s'.heap.get? b = some o ∧ H' b = none := fun b hb o e =>
          let z := I'.pin (b, o) (List.mem_append_right _ (List.mem_append_right _ (mem_pinsAt hb e)))
          ⟨z.1, z.2.1⟩
        refine ⟨m', hm, i + 1, H', (I'.unpinned (pins := [])).weak (by rw [← hw8, wipe_length]) (fun j v e => ?_), T.keep _ _ _ st7 fun b hb o e => (pin' b hb o e).1, fun b hb => ?_, w'⟩
        · rw [← hw8] at e
          exact (wipe_some e).1
        · obtain ⟨o, e, _⟩ := T.obj _ _ st7 b hb
          exact (pin' b hb o e).2
      cases b with
      | false =>
        simp only [Bool.false_eq_true, if_false] at q9 ⊢
        exact fin I9 q9
      | true =>
        simp only [if_true] at q9 ⊢
        refine thnF (pe.run _ s9 σ8 H9 _ I9 q9) fun z s10 ⟨yv, H10, I10, r10, acc, hD10, hz10, nx⟩ => ?_
        exact app_ok (X := X.blk s3 H3 scope ce fp) I10 hD10 hz10 r10 fun s11 I11 => fin I11 nx
  exact codeAny_compStart_list loop (T.self X.A 0 _ _ _ st4 loop)
end
end K22
end
section
set_option Elab.async false
set_option linter.all false
set_option maxRecDepth 100000
set_option maxHeartbeats 4000000
/-! K22Act: a known lambda called in the def that got it. -/
namespace K22
open PySem PySem.Spec PyProof.Rows L2 LamX NdefX Pm
section
variable {X : Cx} {pins : List (Addr × Obj)} {σ : L2.St} {H : Hp} {s : Shared}
/-- the lambda's object is read off the tracked heap -/
theorem lamO_at {P : Program} {w : World} {H : Hp} {h : Heap} {f c : Addr} {q : Str} {params : Arguments} {body : Expr} {scope : Scope} {cl : List (Str × Addr)} (hok : HOk P w H h) (e : H f = some (LamO f q params body scope cl c)) : ∃ pm ctv : Value, h.get? f = some (PySem.W.kla_obj "<lambda>" q params body scope cl pm c ctv) := by
  obtain ⟨z, _, _⟩ := hok f _ e
  exact z
/-- x(), in the def that got the lambda (law's own Inv where the def was entered) -/
theorem pe_act3 {CXg : CXT} {Eg : XK} {Ng : List Str} {qg : Str} {sg : Scope} {g f c' : Addr} {cdg : Value} {params : Arguments} {body : Expr} {scope : Scope} {k i : Nat} {a : Str} {pn : List (Addr × Obj)} {xe : Value → Shared → Prop} {W : WX} {E : XK} {tb : TE} {p1 p2 : Pos}
    (I : Inv X pins σ H s) (L : LamS X.env.scope scope)
    (hbind : ∀ pm ctv : Value, bindArgs (PySem.W.kla_fn "<lambda>" (X.env.qual ++ "<lambda>") params body scope (cloFrom X.env.cells scope.names []) pm (.ref c') ctv) ⟨[], []⟩ = pure [])
    (tk : Takes ((cxOf CXg X.prog X.w X.K X.mg X.base Ng qg sg g cdg X.A X.stack s H Eg).tr pn xe) W) (hW : ∀ cls d σ' H', E cls d H' → W cls d σ' H') (hr : Room (k + 1) (X.A.deeper (envOfC qg sg s.heap.objs.size g cdg)))
    (hbody : ∀ (A : Around) (outer : List Env) (s : Shared) (H : Hp), Room k (A.deeper (lamEnv X scope s.heap.objs.size f c')) → PE (lamCx X A outer s H E scope f c') body tb)
    (hN : Ng[i]? = some a) (hv : Vis sg a) (hd : (a == ("__debug__" : Str)) = false := by decide) (hcd : (a == ("__classdict__" : Str)) = false := by decide) :
    PE ((cxOf CXg X.prog X.w X.K X.mg X.base Ng qg sg g cdg X.A X.stack s H Eg).tr pn xe) (.Call (.Name a p1) [] [] p2)
      (fun σZ HZ Q => σZ[i]? = some (some (.ref f)) ∧ HZ f = some (LamO f (X.env.qual ++ "<lambda>") params body scope (cloFrom X.env.cells scope.names []) c') ∧ HZ c' = some (CodeO c' (X.env.qual ++ "<lambda>")) ∧ tb σ HZ Q) := by
  refine ⟨fun pinsZ sZ σZ HZ Q IZ h => ?_⟩
  obtain ⟨hs, hf, hc, ht⟩ := h
  refine wpAny_Call_Name_kw (thn ((pe_var (pos := p1) (i := i) hN hv hd hcd).run pinsZ sZ σZ HZ (fun v H1 => v = .ref f ∧ H1 = HZ) IZ ⟨.ref f, hs, rfl, rfl⟩) fun u s1 ⟨v, H1, I1, r1, q1⟩ => ?_)
  obtain ⟨ev, eH⟩ := q1
  subst ev
  rw [eH] at I1
  obtain rfl : u = Value.ref f := r1
  obtain ⟨pm, ctv, of1⟩ := lamO_at I1.hok hf
  refine PySem.W.callWith_F0 ⟨_, _, _, _, of1⟩ ?_
  have un : Un (frs X.stack) [] H HZ s.heap s1.heap := I1.base
  have rc : codeAny (model X.prog X.w) (X.A.deeper (envOfC qg sg s.heap.objs.size g cdg)) (.call (.ref f) ⟨[], []⟩) (CR (L2.CX X.prog X.w) (envOfC qg sg s.heap.objs.size g cdg :: X.stack) X.prog X.w HZ s1 Q E) s1 := by
    obtain ⟨⟨oc, vs, t, hoc, hdc, hvc⟩, _, _⟩ := I1.hok c' _ hc
    refine PySem.W.kla_callFunE hr.depth of1 rfl L.co L.gen rfl ⟨c', oc, vs, t, rfl, hoc, hdc, hvc⟩ ?_
    rw [hbind]
    refine wpAny_pure (wpAny_newFunctionEnv (fun y hy => (L.own y hy).2) (fun y hy => absurd hy (by simp)) (fun h₁ hns hsb => ⟨I1.nolimit.fresh _ hsb, ?_⟩) L.kind)
    show codeAny _ _ (.expr body (lamEnv X scope s1.heap.objs.size f c')) _ _
    have kp : ∀ b o, s1.heap.get? b = some o → h₁.get? b = some o := fun b o e => hsb.extBut b o (Nat.ne_of_lt (Heap.lt_size e)) (Heap.get?_push_of_some _ e)
    have J : Inv (lamCx X (X.A.deeper (envOfC qg sg s.heap.objs.size g cdg)) (envOfC qg sg s.heap.objs.size g cdg :: X.stack) s1 HZ E scope f c') [] σ HZ { s1 with heap := h₁, toks := s1.toks + ([] : List (Str × Value)).length } :=
      lam_start2 I L I1.env0 hr.hd un hns kp
    refine PySem.W.kla_codeExpr (wpAny_mono ((hbody _ _ s1 HZ (hr.deeper _)).run [] _ _ HZ Q J ht) (fun v s' hq => ?_) fun e s' hq => hq)
    obtain ⟨w', H', J', rv, q⟩ := hq
    exact ⟨w', H', J'.os, J'.bare, J'.base, J'.hok, rv, q⟩
  have hx : Passes (L2.CX X.prog X.w) ((cxOf CXg X.prog X.w X.K X.mg X.base Ng qg sg g cdg X.A X.stack s H Eg).tr pn xe) E := passes_call tk hW
  refine wpAny_call (codeAny_mono rc fun r s' hq => ?_)
  cases r with
  | error e => exact hx pinsZ σZ HZ s1 e s' I1 hq
  | ok fl =>
    cases fl with
    | ret u => exact I1.after hq
    | next => exact False.elim hq
    | brk => exact False.elim hq
    | cont => exact False.elim hq
end
end K22
end
section
set_option Elab.async false
set_option linter.all false
set_option maxRecDepth 100000
set_option maxHeartbeats 4000000
/-! K22Told: _law_told. -/
namespace K22
open PySem PySem.Spec PyProof.Rows L2 LamX NdefX Pm
/-- the classes of the clauses, in order -/
structure Errs (K : PySem.W.Frag) (mg : Str → Option Value) (cBP cBS c1 c2 c3 c6 c7 c8 c9 : Addr) : Prop where
  g1 : mg "BadWish" = some (.ref c1)
  g2 : mg "BadRoom" = some (.ref c2)
  g3 : mg "BadMatch" = some (.ref c3)
  g4 : mg "BadPaper" = some (.ref cBP)
  g5 : mg "BadSize" = some (.ref cBS)
  g6 : mg "BadText" = some (.ref c6)
  g7 : mg "BadStore" = some (.ref c7)
  g8 : mg "NoSuch" = some (.ref c8)
  g9 : mg "BadDeed" = some (.ref c9)
  p1 : PySem.W.exmOne K (.ref cBP) (.ref c1) = some false
  p2 : PySem.W.exmOne K (.ref cBP) (.ref c2) = some false
  p3 : PySem.W.exmOne K (.ref cBP) (.ref c3) = some false
  p4 : PySem.W.exmOne K (.ref cBP) (.ref cBP) = some true
  s1 : PySem.W.exmOne K (.ref cBS) (.ref c1) = some false
  s2 : PySem.W.exmOne K (.ref cBS) (.ref c2) = some false
  s3 : PySem.W.exmOne K (.ref cBS) (.ref c3) = some false
  s4 : PySem.W.exmOne K (.ref cBS) (.ref cBP) = some false
  s5 : PySem.W.exmOne K (.ref cBS) (.ref cBS) = some true
/-- what told makes of the lambda's reading -/
def TTold3 (cBP cBS : Addr) : (XK → Hp → VK → Prop) → Hp → VK → Prop := fun tl H Q =>
  tl (fun cls _ H' => (cls = .ref cBP ∧ Q (.str "paper") H') ∨ (cls = .ref cBS ∧ Q (.str "size") H')) H Q
theorem scTold : FnScope ["_law_what"] ["_law_what"] (defScope sTold) := ⟨rfl, rfl, rfl, by decide +kernel, rfl, by decide +kernel, by decide +kernel⟩
section
variable {X : Cx} {cBP cBS c1 c2 c3 c6 c7 c8 c9 : Addr}
/-- in told: what the call of its parameter reads as -/
def ActT (X : Cx) (g : Addr) (cdg : Value) (f : Addr) (R : Hp → Prop) (tl : XK → Hp → VK → Prop) (s : Shared) (H : Hp) : Prop :=
  ∀ (W : WX) (pn : List (Addr × Obj)) (xe : Value → Shared → Prop) (E : XK) (p1 p2 : Pos), Takes ((cxOf CX0 X.prog X.w X.K X.mg X.base ["_law_what"] "_law_told" (defScope sTold) g cdg X.A X.stack s H E0).tr pn xe) W → (∀ cls d σ' H', E cls d H' → W cls d σ' H') →
    PE ((cxOf CX0 X.prog X.w X.K X.mg X.base ["_law_what"] "_law_told" (defScope sTold) g cdg X.A X.stack s H E0).tr pn xe) (.Call (.Name "_law_what" p1) [] [] p2) (fun σZ HZ Q => σZ[0]? = some (some (.ref f)) ∧ R HZ ∧ tl E HZ Q)
theorem told_run (e : Errs X.K X.mg cBP cBS c1 c2 c3 c6 c7 c8 c9) {g f : Addr} {cdg : Value} {s : Shared} {H : Hp} {Q : VK} {tl : XK → Hp → VK → Prop} {R : Hp → Prop} (act : ActT X g cdg f R tl s H) (hR : R H) (h : TTold3 cBP cBS tl H Q) :
    ∃ t, PSs (cxOf CX0 X.prog X.w X.K X.mg X.base ["_law_what"] "_law_told" (defScope sTold) g cdg X.A X.stack s H E0).nox (defBody sTold) t ∧ t { nx := fun _ H' => Q .non H', rt := Q } (L2.start ["_law_what"] [.ref f]) H := by
  let Z := (cxOf CX0 X.prog X.w X.K X.mg X.base ["_law_what"] "_law_told" (defScope sTold) g cdg X.A X.stack s H E0).nox
  let S : Str → Addr → Value → Option Addr → TS := fun x _ _ _ => tRet (tC (.str x))
  refine ⟨_, pss_one (ps_try_many (X := (cxOf CX0 X.prog X.w X.K X.mg X.base ["_law_what"] "_law_told" (defScope sTold) g cdg X.A X.stack s H E0).nox) (Wout := fun _ _ _ _ => False)
      (tb := fun W D σ H => ∃ Ech : XK, (∀ cls d σ' H', Ech cls d H' → W cls d σ' H') ∧ σ[0]? = some (some (.ref f)) ∧ R H ∧ tl Ech H D.rt)
      (l := [(.ref c1, S "wish"), (.ref c2, S "room"), (.ref c3, S "match"), (.ref cBP, S "paper"), (.ref cBS, S "size"), (.ref c6, S "text"), (.ref c7, S "store"), (.ref c8, S "no such"), (.ref c9, S "deed")])
      rfl rfl LamX.takes0 (fun W pn xe tk _ => ?_)
      (.cons ⟨rfl, by decide, .inl e.g1⟩ (fun a oe cls d pn _ _ => pss_one (ps_ret pe_str)) (.cons ⟨rfl, by decide, .inl e.g2⟩ (fun a oe cls d pn _ _ => pss_one (ps_ret pe_str)) (.cons ⟨rfl, by decide, .inl e.g3⟩ (fun a oe cls d pn _ _ => pss_one (ps_ret pe_str))
      (.cons ⟨rfl, by decide, .inl e.g4⟩ (fun a oe cls d pn _ _ => pss_one (ps_ret pe_str)) (.cons ⟨rfl, by decide, .inl e.g5⟩ (fun a oe cls d pn _ _ => pss_one (ps_ret pe_str)) (.cons ⟨rfl, by decide, .inl e.g6⟩ (fun a oe cls d pn _ _ => pss_one (ps_ret pe_str))
      (.cons ⟨rfl, by decide, .inl e.g7⟩ (fun a oe cls d pn _ _ => pss_one (ps_ret pe_str)) (.cons ⟨rfl, by decide, .inl e.g8⟩ (fun a oe cls d pn _ _ => pss_one (ps_ret pe_str)) (.cons ⟨rfl, by decide, .inl e.g9⟩ (fun a oe cls d pn _ _ => pss_one (ps_ret pe_str)) .nil)))))))))), ?_⟩
  · refine ⟨fun pins s' σ H' D I h' => ?_⟩
    obtain ⟨Ech, hW, h1, h2, h3⟩ := h'
    exact (pss_one (ps_ret (act W pn xe Ech _ _ tk hW))).run pins s' σ H' D I ⟨h1, h2, h3⟩
  · refine ⟨_, fun cls d σ' H' z => ?_, rfl, hR, h⟩
    rcases z with ⟨rfl, q⟩ | ⟨rfl, q⟩
    · exact ⟨_, e.p1, (fun z => by cases z), fun _ => ⟨_, e.p2, (fun z => by cases z), fun _ => ⟨_, e.p3, (fun z => by cases z), fun _ => ⟨_, e.p4, (fun _ _ _ => q), fun z => by cases z⟩⟩⟩⟩
    · exact ⟨_, e.s1, (fun z => by cases z), fun _ => ⟨_, e.s2, (fun z => by cases z), fun _ => ⟨_, e.s3, (fun z => by cases z), fun _ => ⟨_, e.s4, (fun z => by cases z), fun _ => ⟨_, e.s5, (fun _ _ _ => q), fun z => by cases z⟩⟩⟩⟩⟩
end
end K22
end
section
set_option Elab.async false
set_option linter.all false
set_option maxRecDepth 100000
set_option maxHeartbeats 4000000
/-! K22Tell: _law_told(f), f a known lambda of law's, called from law's own context or from a block of it. -/
namespace K22
open PySem PySem.Spec PyProof.Rows L2 LamX NdefX Pm
/-- the def _law_told, its parts -/
structure TellF (K : PySem.W.Frag) (mg : Str → Option Value) (g : Addr) : Prop where
  ex : ∃ (oc : Value) (od : Option Addr) (dV kV doc pm cdv ct : Value) (an : Option Addr) (osl : Array (Option Value)),
    K.lookup g = some ⟨oc, od, .func (PySem.W.fnOf "_law_told" "_law_told" (defArgs sTold) (defBody sTold) (defScope sTold) dV kV doc pm an cdv ct), osl⟩ ∧ PySem.W.codeIn K cdv "_law_told" = true ∧
    Binds K (PySem.W.fnOf "_law_told" "_law_told" (defArgs sTold) (defBody sTold) (defScope sTold) dV kV doc pm an cdv ct) ["_law_what"] []
  k : PySem.W.keepIn K (.ref g) = true
  g : mg "_law_told" = some (.ref g)
section
variable {X Y : Cx} {cBP cBS c1 c2 c3 c6 c7 c8 c9 g : Addr}
/-- Y runs where X runs -/
structure Same2 (X Y : Cx) : Prop where
  p : Y.prog = X.prog
  w : Y.w = X.w
  K : Y.K = X.K
  mg : Y.mg = X.mg
  base : Y.base = X.base
  A : Y.A = X.A
  st : Y.stack = X.stack
theorem told_at (e : Errs X.K X.mg cBP cBS c1 c2 c3 c6 c7 c8 c9) (Tf : TellF X.K X.mg g) (S2 : Same2 X Y) {pins pinsY : List (Addr × Obj)} {σ σY : L2.St} {H : Hp} {s : Shared} {Q : VK} {f c' : Addr} {k : Nat} {params : Arguments} {body : Expr} {scope : Scope} {tb : XK → TE}
    (IY : Inv Y pinsY σY H s) (I : Inv X pins σ H s) (L : LamS X.env.scope scope) (hr : Room (k + 2) X.A)
    (hbind : ∀ pm ctv : Value, bindArgs (PySem.W.kla_fn "<lambda>" (X.env.qual ++ "<lambda>") params body scope (cloFrom X.env.cells scope.names []) pm (.ref c') ctv) ⟨[], []⟩ = pure [])
    (hbody : ∀ (A : Around) (outer : List Env) (s : Shared) (H : Hp) (E : XK), Room k (A.deeper (lamEnv X scope s.heap.objs.size f c')) → PE (lamCx X A outer s H E scope f c') body (tb E))
    (hf : H f = some (LamO f (X.env.qual ++ "<lambda>") params body scope (cloFrom X.env.cells scope.names []) c')) (hc : H c' = some (CodeO c' (X.env.qual ++ "<lambda>")))
    (h : TTold3 cBP cBS (fun E H' Q' => tb E σ H' Q') H Q) : wpAny (model Y.prog Y.w) Y.A (call (.ref g) [.ref f]) (EP Y pinsY σY Q) Y.xe s := by
  obtain ⟨oc, od, dV, kV, doc, pm, cdv, ct, an, osl, lk, hcd, hb⟩ := Tf.ex
  have rc : codeAny (model X.prog X.w) X.A (.call (.ref g) ⟨[.ref f], []⟩) (CR C8.CX0 X.stack X.prog X.w H s Q C8.E0) s := by
    refine run_ofS (N := ["_law_what"]) (ps := ["_law_what"]) (us := [.ref f]) (vs := [.ref f]) lk hcd scTold hr I.env0 (hb s [.ref f] I.kIn rfl) (.cons rfl .nil) rfl fun hr' => ?_
    obtain ⟨t', ht', hq'⟩ := told_run (X := X) e (g := g) (f := f) (cdg := cdv) (s := s) (H := H) (Q := Q) (tl := fun E H' Q' => tb E σ H' Q') (R := fun HZ => HZ f = some (LamO f (X.env.qual ++ "<lambda>") params body scope (cloFrom X.env.cells scope.names []) c') ∧ HZ c' = some (CodeO c' (X.env.qual ++ "<lambda>")))
      (fun W pn xe E p1 p2 tk hW => by
        have p := pe_act3 (i := 0) (a := "_law_what") (p1 := p1) (p2 := p2) (cdg := cdv) (g := g) (CXg := CX0) (Eg := E0) (Ng := ["_law_what"]) (qg := "_law_told") (sg := defScope sTold) (tb := tb E) I L hbind tk hW hr' (fun A outer s H hr2 => hbody A outer s H E hr2) rfl (.inl rfl)
        exact ⟨fun pins s σ H Q I q => p.run pins s σ H Q I ⟨q.1, q.2.1.1, q.2.1.2, q.2.2⟩⟩) ⟨hf, hc⟩ h
    exact ⟨t', ht'.nox, hq'⟩
  rw [S2.p, S2.w, S2.A]
  refine wpAny_call (codeAny_mono rc fun r s2 hq => ?_)
  cases r with
  | error e => exact (show False from hq).elim
  | ok fl =>
    cases fl with
    | ret u =>
      have hq : CE X.stack X.prog X.w H s Q u s2 := hq
      rw [← S2.p, ← S2.w, ← S2.st] at hq
      exact IY.after hq
    | next => exact False.elim hq
    | brk => exact False.elim hq
    | cont => exact False.elim hq
end
end K22
end
section
set_option Elab.async false
set_option linter.all false
set_option maxRecDepth 100000
set_option maxHeartbeats 4000000
/-! K22TopA: what law's body needs of the calls. -/
namespace K22
open PySem PySem.Spec PyProof.Rows L2 LamX NdefX Pm
/-- a def that may raise, where it doesn't -/
theorem passN {C : Cx} : Passes (L2.CX C.prog C.w) C (fun _ _ _ => False) := passes_call LamX.takes0 fun _ _ _ _ z => z
section
variable {w : World} {K : PySem.W.Frag} {mg : Str → Option Value} {base : Heap} {Cw cBS fW cW PW : Addr} {fdW : FuncData}
structure MkW (K : PySem.W.Frag) (mg : Str → Option Value) (base : Heap) (Cw fW cW PW : Addr) (fdW : FuncData) : Prop where
  mw : Mk K Cw fW
  g : mg "Wants" = some (.ref Cw)
  F : FunC K "__init__" "Wants.__init__" sWInit fW cW fdW
  T : GxR.TabB base mg cW PW
  b : Binds K fdW ["self", "lists", "asker_bounds", "room_bounds"] []
/-- Wants(a, b, c) -/
theorem t_wants {B : Amb} {C : Cx} {k : Nat} {a b c : Expr} {σ : L2.St} {H : Hp} {pos p1 : Pos} {W : Wt} {d2 d3 : PyData} {Q : VK} {E : XK} (hK : C.K = K) (hmg : C.mg = mg) (hbs : C.base = base) (X : WTx K mg Cw cBS) (M : MkW K mg base Cw fW cW PW fdW) (hr : Room (k + 4) C.A) (hg : Gl C "Wants") (hx : Passes (L2.CX C.prog C.w) C E) (tk : TK B H) (hPW : PW ∈ B.TG)
    (ha : EV B C a σ H (listsD W.lists)) (hb : EV B C b σ H d2) (q2 : Sq d2 (W.askers.map pD)) (hc : EV B C c σ H d3) (q3 : Sq d3 (W.rooms.map pD))
    (hrows : ∀ row ∈ W.lists, row.Pairwise (· < ·) ∧ row.length ≤ 60) (l1 : W.lists.length ≤ 1000) (l2 : W.askers.length ≤ 1000) (l3 : W.rooms.length ≤ 1000)
    (kok : wantsOk W = true → ∀ p H', Gr B H H' → WantAt B.X Cw H' p W → Q (.ref p) H') (kbad : wantsOk W = false → ∀ H', Gr B H H' → E (.ref cBS) none H')
    (h1 : starEach [a, b, c] C.env = (false, eval a C.env) :: starEach [b, c] C.env := by rfl) (h2 : starEach [b, c] C.env = (false, eval b C.env) :: starEach [c] C.env := by rfl) (h3 : starEach [c] C.env = (false, eval c C.env) :: starEach [] C.env := by rfl) (hpl : (backTo pos (starEach [b, c] C.env)).any (·.1) = false := by rfl) :
    tS C (.Call (.Name "Wants" p1) [a, b, c] [] pos) σ H Q := by
  subst hK hmg hbs
  refine of_pe (pe_make M.mw (ok_winit M.F M.T X) (hr.mono (by omega)) hg M.g M.b .nil hx (pa_cons pe_S (pa_cons pe_S (pa_cons pe_S pa_nil h3) h2) h1) (by decide) h1 hpl) ?_
  refine ha H (.refl tk) _ fun v1 H1 g1 hv1 => hb H1 g1 _ fun v2 H2 g2 hv2 => hc H2 (g1.trans g2) _ fun v3 H3 g3 hv3 => ?_
  have g13 := g1.trans (g2.trans g3)
  intro x dx hx' hdx hne
  have gN : Gr B H3 (upd (upd H3 dx (.own x)) x (.ins Cw dx [])) := .ext g13.tk fun b o e => by rw [upd_ne (ne_of_none e hx'), upd_ne (ne_of_none e hdx)]; exact e
  have fin : ∀ {H'}, Gw B [x] (upd (upd H3 dx (.own x)) x (.ins Cw dx [])) H' → Gr B H H' := fun {H'} w' => w'.gr (g13.trans gN) fun c hc => by rw [List.mem_singleton.mp hc]; exact g13.dom _ hx'
  exact ⟨B, x, dx, v1, v2, v3, W, d2, d3, rfl, gN.tk, hPW, upd_same, (hv1.mono (g2.trans g3)).mono gN, (hv2.mono g3).mono gN, q2, hv3.mono gN, q3, hrows, l1, l2, l3, fun z H' w' WA => ⟨rfl, kok z x H' (fin w') WA⟩, fun z H' w' => kbad z H' (fin w')⟩
/-- x(e ..) of a def's own promise, the heap changing as it may -/
theorem t_call {B : Amb} {C : Cx} {k : Nat} {f : Addr} {fd : FuncData} {ps : List Str} {sp : Sp} {x : Str} {px pos : Pos} {e : Expr} {es : List Expr} {σ : L2.St} {H : Hp} {Q : VK} {CXt : CXT} {E : XK} (F : FnOk C.prog C.w C.K C.mg C.base CXt k f fd ps sp) (hr : Room k C.A) (hb : Binds C.K fd ps []) (hx : Passes CXt C E) (hg : Gl C x) (hm : C.mg x = some (.ref f)) (hk : PySem.W.keepIn C.K (.ref f) = true)
    {R : List V → Hp → Prop} (tk : TK B H) (ha : EAP B C (e :: es) σ H R) (q : ∀ H2 vs, Gr B H H2 → R vs H2 → sp vs H2 Q E)
    (hdb : (x == ("__debug__" : Str)) = false := by decide) (he : starEach (e :: es) C.env = (false, eval e C.env) :: starEach es C.env := by rfl) (hpl : (backTo pos (starEach es C.env)).any (·.1) = false := by rfl) : tS C (.Call (.Name x px) (e :: es) [] pos) σ H Q := by
  obtain ⟨t, pt, hta⟩ := ha
  refine of_pe (pe_call F hr hg hm hk hb .nil hx pt hdb he hpl) (hta H (.refl tk) _ fun vs H3 g3 hvs => ?_)
  rw [List.append_nil]
  exact q H3 vs g3 hvs
/-- a def of the top: its text, its place, its name -/
def FnT (K : PySem.W.Frag) (mg : Str → Option Value) (x : Str) (st : Stmt) (ps : List Str) : Prop := ∃ (f : Addr) (fd : FuncData), Fun K x x st f fd ∧ Binds K fd ps [] ∧ mg x = some (.ref f)
/-- .. with its table of code objects at P -/
def FnG (K : PySem.W.Frag) (mg : Str → Option Value) (base : Heap) (x : Str) (st : Stmt) (ps : List Str) (P : Addr) : Prop := ∃ (f c : Addr) (fd : FuncData), FunC K x x st f c fd ∧ GxR.TabB base mg c P ∧ Binds K fd ps [] ∧ mg x = some (.ref f)
/-- a def of the top that keeps a promise -/
def FO (P : Program) (w : World) (K : PySem.W.Frag) (mg : Str → Option Value) (base : Heap) (CXt : CXT) (k : Nat) (x : Str) (ps : List Str) (sp : Sp) : Prop := ∃ (f : Addr) (fd : FuncData), FnOk P w K mg base CXt k f fd ps sp ∧ Binds K fd ps [] ∧ mg x = some (.ref f) ∧ PySem.W.keepIn K (.ref f) = true
theorem t_fo {B : Amb} {C : Cx} {k : Nat} {ps : List Str} {sp : Sp} {x : Str} {px pos : Pos} {e : Expr} {es : List Expr} {σ : L2.St} {H : Hp} {Q : VK} {CXt : CXT} {E : XK} (F : FO C.prog C.w C.K C.mg C.base CXt k x ps sp) (hr : Room k C.A) (hx : Passes CXt C E) (hg : Gl C x)
    {R : List V → Hp → Prop} (tk : TK B H) (ha : EAP B C (e :: es) σ H R) (q : ∀ H2 vs, Gr B H H2 → R vs H2 → sp vs H2 Q E)
    (hdb : (x == ("__debug__" : Str)) = false := by decide) (he : starEach (e :: es) C.env = (false, eval e C.env) :: starEach es C.env := by rfl) (hpl : (backTo pos (starEach es C.env)).any (·.1) = false := by rfl) : tS C (.Call (.Name x px) (e :: es) [] pos) σ H Q := by
  obtain ⟨f, fd, h1, h2, h3, h4⟩ := F
  exact t_call h1 hr h2 hx hg h3 h4 tk ha q hdb he hpl
/-- what law's body asks of the rest -/
structure LawF (P : Program) (w : World) (K : PySem.W.Frag) (mg : Str → Option Value) (base : Heap) (Cw cBS cBP PS PLa PLk PW PWo PKe PCh gT c1 c2 c3 c6 c7 c8 c9 : Addr) : Prop where
  rounds : FO P w K mg base CX0 2 "_law_rounds" ["_law_script", "_law_count_of"] (spRounds K)
  roll : ∃ fR fdR, Rl K mg fR fdR
  bounds : FO P w K mg base CX0 2 "_law_bounds" ["_law_dice_here", "_law_many"] spBounds
  flat : FO P w K mg base CX0 1 "_law_flat" ["_law_rows"] spFlat
  all : FO P w K mg base CX0 1 "_law_all" ["_law_pairs"] spAll
  kept : FO P w K mg base CX0 1 "_law_kept" ["_law_lot", "_law_askers", "_law_rooms", "_law_least"] spKept
  most : FO P w K mg base CX0 5 "most" ["wants"] (spMost Cw PS PLa)
  mcut : FO P w K mg base CX0 5 "most_cut" ["wants"] (spMostCut Cw PS PLa)
  least : FO P w K mg base CX0 5 "with_least" ["wants"] (spLeast Cw PS PLa)
  short : FO P w K mg base CX0 5 "short_cut" ["wants"] (spShort Cw PS PLa)
  worth : FO P w K mg base CX0 3 "cut_worth" ["wants", "cut"] (spWorth Cw PWo PLk)
  keeps : FO P w K mg base CX0 2 "keeps" ["wants", "pairs"] (spKeeps Cw PKe)
  check : FO P w K mg base (L2.CX P w) 3 "check_cut" ["wants", "cut"] (spCheck Cw PCh PLk cBP)
  wants : ∃ fW cW fdW, MkW K mg base Cw fW cW PW fdW
  X : WTx K mg Cw cBS
  linked : ∃ fLk cLk fdLk, Lkd K mg base Cw fLk cLk PLk fdLk
  told : TellF K mg gT
  errs : Errs K mg cBP cBS c1 c2 c3 c6 c7 c8 c9
  rg : mg "range" = none
  mx : mg "max" = none
end
end K22
end
section
set_option Elab.async false
set_option linter.all false
set_option maxRecDepth 100000
set_option maxHeartbeats 4000000
/-! K22TopB: the wants that law rolls are as they should be. -/
namespace K22
open PySem PySem.Spec PyProof.Rows L2 LamX NdefX Pm
theorem places_lt (k : Nat) : (places k).Pairwise (· < ·) := by
  unfold places
  rw [List.pairwise_map]
  exact List.Pairwise.imp (fun h => by omega) List.pairwise_lt_range
theorem row_of {W : Wt} {a : Nat} : W.row a = [] ∨ W.row a ∈ W.lists := by
  unfold Wt.row
  rw [List.getD_eq_getElem?_getD]
  cases h : W.lists[a]? with
  | none => exact .inl rfl
  | some r => exact .inr (List.mem_of_getElem? h)
theorem goodB_at {ps : List (Int × Int)} (g : GoodB ps) (i : Nat) : 0 ≤ (ps.getD i (0, 0)).1 ∧ (ps.getD i (0, 0)).1 ≤ (ps.getD i (0, 0)).2 := by
  rw [List.getD_eq_getElem?_getD]
  cases h : ps[i]? with
  | none => exact ⟨Int.le_refl _, Int.le_refl _⟩
  | some p =>
    have := g p (List.mem_of_getElem? h)
    exact ⟨this.1, this.2.1⟩
theorem wants_ok {W : Wt} (hl : W.askers.length = W.lists.length) (ga : GoodB W.askers) (gr : GoodB W.rooms) (rows : ∀ row ∈ W.lists, row.Sublist (places W.m)) (hn : W.lists.length ≤ 3) (hm : W.rooms.length ≤ 3) :
    wantsOk W = true ∧ W.Ok ∧ Small W ∧ ∀ row ∈ W.lists, row.Pairwise (· < ·) ∧ row.length ≤ 60 := by
  have em : W.m = W.rooms.length := rfl
  have pl : (places W.m).length = W.m := by unfold places; rw [List.length_map, List.length_range]
  have rin : ∀ row ∈ W.lists, ∀ r ∈ row, 0 ≤ r ∧ r < (W.m : Int) := fun row hr r hm => mem_places.mp ((rows row hr).mem hm)
  have rlen : ∀ row ∈ W.lists, row.length ≤ 3 := fun row hr => by
    have := (rows row hr).length_le
    omega
  refine ⟨?_, ⟨hl, fun a => ?_, fun a r hr => ?_, fun a _ => goodB_at ga a, fun r _ => goodB_at gr r⟩, ⟨by omega, by omega, fun a => ?_, fun p hp => ?_, fun p hp => ?_⟩, fun row hr => ⟨(places_lt _).sublist (rows row hr), ?_⟩⟩
  · unfold wantsOk
    have h1 : badB W = false := by
      unfold badB
      rw [List.any_eq_false]
      intro p hp
      have : 0 ≤ p.1 ∧ p.1 ≤ p.2 ∧ p.2 ≤ 2 := (List.mem_append.mp hp).elim (ga p) (gr p)
      simp
      omega
    have h2 : badR W = false := by
      unfold badR
      rw [List.any_eq_false]
      intro row hrow
      rw [Bool.not_eq_true, List.any_eq_false]
      intro r hr
      have := rin row hrow r hr
      simp
      omega
    rw [h1, h2, decide_eq_true hl]
    rfl
  · rcases row_of (W := W) (a := a) with e | e
    · rw [e]; exact List.nodup_nil
    · exact (nodup_places _).sublist (rows _ e)
  · rcases row_of (W := W) (a := a) with e | e
    · rw [e] at hr; cases hr
    · exact rin _ e r hr
  · rcases row_of (W := W) (a := a) with e | e
    · rw [e]; show 0 ≤ 8; omega
    · have := rlen _ e; omega
  · have := ga p hp; omega
  · have := gr p hp; omega
  · have := rlen row hr; omega
end K22
end
section
set_option Elab.async false
set_option linter.all false
set_option maxRecDepth 100000
set_option maxHeartbeats 4000000
/-! K22Pl2: plain facts that law's body rests on: keeps, cuts, wants that are refused, the best. -/
namespace K22
open PySem PySem.Spec PyProof.Rows L2 NdefX Pm
/-! ### pairs, each once -/
theorem pairsAll_nodup {W : Wt} (ok : W.Ok) : (pairsAll W).Nodup := by
  unfold pairsAll
  have key : ∀ (l : List Nat), l.Nodup → (l.flatMap fun a => (W.row a).map fun r => ((a : Int), r)).Nodup := by
    intro l
    induction l with
    | nil => intro _; exact List.nodup_nil
    | cons a l ih =>
      intro nd
      obtain ⟨h1, h2⟩ := List.nodup_cons.mp nd
      rw [List.flatMap_cons, List.nodup_append]
      refine ⟨nodup_map_inj (fun x _ y _ e => (Prod.mk.inj e).2) (ok.nd a), ih h2, fun p hp q hq e => ?_⟩
      subst e
      obtain ⟨r, _, rfl⟩ := List.mem_map.mp hp
      obtain ⟨b, hb, hq⟩ := List.mem_flatMap.mp hq
      obtain ⟨r', _, e⟩ := List.mem_map.mp hq
      have : (b : Int) = (a : Int) := (Prod.mk.inj e).1
      have : b = a := by omega
      exact h1 (this ▸ hb)
  exact key _ List.nodup_range
theorem all_congr {α : Type} {l : List α} {p q : α → Bool} (h : ∀ a ∈ l, p a = q a) : l.all p = l.all q := by
  induction l with
  | nil => rfl
  | cons a l ih => rw [List.all_cons, List.all_cons, h a List.mem_cons_self, ih fun b hb => h b (List.mem_cons_of_mem _ hb)]
theorem bounds_eq (lo hi k : Int) : (decide (lo ≤ k) && decide (k ≤ hi)) = !(decide (hi < k) || true && decide (k < lo)) := by
  by_cases h1 : lo ≤ k <;> by_cases h2 : k ≤ hi
  · rw [decide_eq_true h1, decide_eq_true h2, decide_eq_false (by omega), decide_eq_false (by omega)]; rfl
  · rw [decide_eq_true h1, decide_eq_false h2, decide_eq_true (p := hi < k) (by omega), decide_eq_false (by omega)]; rfl
  · rw [decide_eq_false h1, decide_eq_true h2, decide_eq_false (by omega), decide_eq_true (p := k < lo) (by omega)]; rfl
  · rw [decide_eq_false h1, decide_eq_false h2, decide_eq_true (p := hi < k) (by omega)]; rfl
theorem good_eq (W : Wt) (l : Lot) : (goodA W l && goodR W l) = keptB W l true := by
  unfold goodA goodR keptB
  rw [all_congr fun a _ => bounds_eq _ _ _, all_congr (l := List.range W.m) fun a _ => bounds_eq _ _ _]
theorem keeps_law {W : Wt} (ok : W.Ok) {l : Lot} (h : l ∈ allLots (pairsAll W)) : keepsB W l = decide (l ∈ goodLots W) := by
  have hs := mem_allLots.mp h
  have h1 : l.Nodup := (pairsAll_nodup ok).sublist hs
  have h2 : l.any (inRows W) = false := by
    rw [List.any_eq_false]
    intro p hp
    obtain ⟨a, ha, e1, e2⟩ := mem_pairsAll.mp (hs.mem hp)
    unfold inRows
    rw [e1, decide_eq_true (show 0 ≤ (a : Int) by omega), decide_eq_true (show (a : Int) < (W.n : Int) by omega), decide_eq_true (show p.2 ∈ W.row (a : Int).toNat from e2)]
    decide
  unfold keepsB
  rw [good_eq, decide_eq_true h1, h2]
  have h3 : decide (l ∈ goodLots W) = keptB W l true := by
    rw [Bool.eq_iff_iff, decide_eq_true_iff]
    unfold goodLots
    rw [List.mem_filter]
    exact ⟨fun z => z.2, fun z => ⟨h, z⟩⟩
  rw [h3]
  simp
theorem keeps_far {W : Wt} (ok : W.Ok) (hm : W.m ≤ 3) : keepsB W [(0, 9)] = false := by
  unfold keepsB
  have : ([((0 : Int), (9 : Int))]).any (inRows W) = true := by
    rw [List.any_cons]
    have : inRows W (0, 9) = true := by
      unfold inRows
      rw [decide_eq_false (p := (9 : Int) ∈ W.row _) fun z => by have := ok.inR _ _ z; omega]
      simp
    rw [this]
    rfl
  rw [this]
  simp
theorem keeps_twice {W : Wt} {p : Int × Int} : keepsB W [p, p] = false := by
  unfold keepsB
  rw [decide_eq_false (p := [p, p].Nodup) (by simp)]
  rfl
/-! ### links, counted -/
theorem linked_len (W : Wt) (A O : List Int) : linked W A O = ((A.flatMap fun k => ((W.row k.toNat).filter fun r => decide (r ∈ O)).map fun _ => (1 : Int)).length : Int) := by
  unfold linked
  induction A with
  | nil => rfl
  | cons a A ih =>
    rw [sm_cons, List.flatMap_cons, List.length_append, ih, Int.natCast_add, List.length_map, ← sm_count]
    congr 1
    exact sm_congr fun r _ => by simp
/-! ### papers and wants that are refused -/
theorem cut_good {W : Wt} (ok : W.Ok) {A R : List Int} (h : cutOk W A R = true) : goodLots W = [] := by
  unfold cutOk at h
  simp only [Bool.and_eq_true, Bool.not_eq_true', decide_eq_true_eq] at h
  obtain ⟨⟨⟨⟨h1, h2⟩, h3⟩, h4⟩, h5⟩ := h
  have key : ∀ (k : Nat) (L : List Int), L.any (inB k) = false → ∀ x ∈ L, 0 ≤ x ∧ x < (k : Int) := fun k L h x hx => by
    have := List.any_eq_false.mp h x hx
    unfold inB at this
    simpa using this
  exact check_good ok ⟨h3, h4, key _ _ h1, key _ _ h2⟩ h5
theorem cut_of_short {W : Wt} {A R : List Int} (sd : Sides W A R) (h : checkB W A R = true) : cutOk W A R = true := by
  have key : ∀ (k : Nat) (L : List Int), (∀ x ∈ L, 0 ≤ x ∧ x < (k : Int)) → L.any (inB k) = false := fun k L h => by
    rw [List.any_eq_false]
    intro x hx
    have := h x hx
    unfold inB
    simpa using this
  unfold cutOk
  rw [key _ _ sd.ia, key _ _ sd.ir, decide_eq_true sd.na, decide_eq_true sd.nr, h]
  rfl
theorem cut_far (W : Wt) : cutOk W [(W.n : Int)] [] = false := by
  unfold cutOk
  have : ([(W.n : Int)]).any (inB W.n) = true := by
    rw [List.any_cons]
    unfold inB
    simp
  rw [this]
  rfl
theorem cut_twice (W : Wt) : cutOk W [0, 0] [] = false := by
  unfold cutOk
  rw [decide_eq_false (p := ([0, 0] : List Int).Nodup) (by simp)]
  simp
theorem wants_few {W : Wt} (h : W.askers.length = W.lists.length) (h1 : 1 ≤ W.lists.length) : wantsOk ⟨W.lists, W.askers.drop 1, W.rooms⟩ = false := by
  unfold wantsOk
  rw [decide_eq_false (p := (W.askers.drop 1).length = W.lists.length) (by rw [List.length_drop]; omega)]
  rfl
theorem wants_far {ps : List (Int × Int)} : wantsOk ⟨[[(ps.length : Int)]], [(0, 1)], ps⟩ = false := by
  unfold wantsOk
  have : badR ⟨[[(ps.length : Int)]], [(0, 1)], ps⟩ = true := by
    unfold badR
    simp
  rw [this]
  simp
theorem wants_bad {ps : List (Int × Int)} : wantsOk ⟨[[]], [(2, 1)], ps⟩ = false := by
  unfold wantsOk
  have : badB ⟨[[]], [(2, 1)], ps⟩ = true := by
    unfold badB
    simp
  rw [this]
  simp
/-! ### the best by trying all -/
theorem kept_nil {W : Wt} (ok : W.Ok) : keptB W [] false = true := by
  rw [keptB_iff]
  refine ⟨fun a ha => ⟨?_, fun z => by cases z⟩, fun r hr => ⟨?_, fun z => by cases z⟩⟩
  · have := ok.ab a ha
    show 0 ≤ W.ahi a
    omega
  · have := ok.rb r hr
    show 0 ≤ W.rhi r
    omega
def keptLens (W : Wt) : List Int := ((allLots (pairsAll W)).filter fun l => keptB W l false).map fun l => (l.length : Int)
theorem keptLens_ne {W : Wt} (ok : W.Ok) : keptLens W ≠ [] := fun e => by
  have : ((([] : Lot).length : Nat) : Int) ∈ keptLens W := List.mem_map.mpr ⟨[], List.mem_filter.mpr ⟨mem_allLots.mpr (List.nil_sublist _), kept_nil ok⟩, rfl⟩
  rw [e] at this
  cases this
theorem best_of {W : Wt} {b : Int} (h1 : b ∈ keptLens W) (h2 : ∀ y ∈ keptLens W, y ≤ b) : Best W b := by
  obtain ⟨l, hl, e⟩ := List.mem_map.mp h1
  obtain ⟨hl1, hl2⟩ := List.mem_filter.mp hl
  exact ⟨⟨l, hl1, hl2, e⟩, fun l hl hk => h2 _ (List.mem_map.mpr ⟨l, List.mem_filter.mpr ⟨hl, hk⟩, rfl⟩)⟩
theorem allLots_nil {ps : Lot} : allLots ps ≠ [] := fun e => by
  have : ([] : Lot) ∈ allLots ps := mem_allLots.mpr (List.nil_sublist _)
  rw [e] at this
  cases this
end K22
end
section
set_option Elab.async false
set_option linter.all false
set_option maxRecDepth 100000
set_option maxHeartbeats 4000000
/-! K22TopC: law's body, the setup: many, wide, lists, bounds, wants. -/
namespace K22
open PySem PySem.Spec PyProof.Rows L2 LamX NdefX Pm
abbrev nLaw : List Str := ["_law_script", "_law_dice_here", "_law_many", "_law_wide", "_law_lists", "_law_askers", "_law_rooms", "_law_wants", "_law_lots", "_law_best", "_law_told_now", "_law_cut", "_law_good", "_law_kept_here", "_law_short", "_law_lot", "_law_turn", "_law_guess", "_law_bad", "_law_room", "_law_k", "_law_pair"]
theorem scLaw : FnScope nLaw ["_law_script"] (defScope sLaw) := ⟨rfl, rfl, rfl, by decide +kernel, rfl, by decide +kernel, by decide +kernel⟩
abbrev lawC (P : Program) (w : World) (K : PySem.W.Frag) (mg : Str → Option Value) (base : Heap) (f c : Addr) (A : Around) (outer : List Env) (s : Shared) (H : Hp) (E : XK) : Cx := (cxOf CX0 P w K mg base nLaw "law" (defScope sLaw) f (.ref c) A outer s H E).nox
def forBody : Stmt → List Stmt
  | .For _ _ b _ _ => b
  | _ => []
abbrev lawB : List Stmt := forBody ((defBody sLaw).getD 0 (.Pass ⟨0, 0, 0, 0⟩))
/-- x, y = (a, b) of cells, the heap changing -/
theorem s_twoT {B : Amb} {C : Cx} {D : Ends} {i j : Nat} {x y : Str} {a b : Expr} {px py tp pt pos : Pos} {kk k2 : Nat} {σ : L2.St} {H : Hp} (hc : C.calm = true) (nd : C.N.Nodup) (hi : C.N[i]? = some x) (hj : C.N[j]? = some y)
    (lx : Loc C.env.scope x) (ly : Loc C.env.scope y) (fx : C.fn x = true ∨ C.env.scope.names.lookup x = some .local) (fy : C.fn y = true ∨ C.env.scope.names.lookup y = some .local)
    (h : tS C a σ H fun v H1 => tS C b σ H1 fun w H2 => TK B H2 ∧ ∀ H', Gr B H2 H' → D.nx ((σ.set i (some v)).set j (some w)) H')
    (hs1 : starEach [a, b] C.env = (false, eval a C.env) :: starEach [b] C.env := by rfl) (hs2 : starEach [b] C.env = (false, eval b C.env) :: starEach [] C.env := by rfl)
    (hs : swapsWithSole [.Tuple [.Name x px, .Name y py] kk tp] (.Tuple [a, b] k2 pt) pos.line C.env = pure false := by rfl) (hw : swappedStores [.Tuple [.Name x px, .Name y py] kk tp] (.Tuple [a, b] k2 pt) C.env = pure none := by rfl) :
    sS C (.Assign [.Tuple [.Name x px, .Name y py] kk tp] (.Tuple [a, b] k2 pt) pos) D σ H := by
  refine s_asg (of_pe (pe_tup (pa_cons pe_S (pa_cons pe_S pa_nil hs2) hs1)) fun pins s I => wpAny_mono (h pins s I) (fun u s1 ⟨v, H1, I1, r1, q1⟩ => ⟨v, H1, I1, r1, fun pins' s' I' => wpAny_mono (q1 pins' s' I') (fun u2 s2 ⟨w, H2, I2, r2, tk, q2⟩ => ⟨w, H2, I2, r2, (by show 2 ≤ sizeLine; decide), fun t ht => ?_⟩) fun _ _ z => z⟩) fun _ _ z => z) hs hw
  have g3 := Gr.new (o := .tup [v, w]) tk ht
  exact of_pg (pg_tup hc (pgs_cons (pg_name nd hi lx fx) (pgs_cons (pg_name nd hj ly fy) pgs_nil))) ⟨t, _, rfl, .inl (.inl upd_same), rfl, _, _, rfl, _, _, rfl, rfl, q2 _ g3⟩
/-- n + roll -/
theorem t_addR {C : Cx} {b : Expr} {σ : L2.St} {H : Hp} {pos : Pos} {n : Int} {j : Nat} {p : Pos} {Q : VK} (h : tS C b σ H fun v H1 => ∃ r : Int, v = .int r ∧ Q (.int (n + r)) H1) : tS C (.BinOp (.Constant (.int n) j p) .Add b pos) σ H Q :=
  of_pe (pe_op op_add pe_int pe_S) fun pins s I => wpAny_mono (h pins s I) (fun u s1 ⟨v, H1, I1, r1, r, e, q⟩ => ⟨v, H1, I1, r1, n, r, rfl, e, q⟩) fun _ _ z => z
/-- tuple(e), the heap changing -/
theorem t_tupleOf {B : Amb} {C : Cx} {a : Expr} {σ : L2.St} {H : Hp} {p' pos : Pos} {Q : VK} (hg : Gl C "tuple") (hm : C.mg "tuple" = none) (h : tS C a σ H fun v H1 => ∃ ds, TK B H1 ∧ Is B.X H1 v (.list ds) ∧ ∀ v' H2, Gr B H1 H2 → Is B.X H2 v' (.tuple ds) → Q v' H2) (hs : starEach [a] C.env = (false, eval a C.env) :: starEach [] C.env := by rfl) : tS C (.Call (.Name "tuple" p') [a] [] pos) σ H Q :=
  of_pe (pe_callTy call_tuple_of hg hm boot_tuple (pa_cons pe_S pa_nil hs) (he := hs)) fun pins s I => wpAny_mono (h pins s I) (fun u s1 ⟨v, H1, I1, r1, ds, tk, hv, k⟩ => ⟨v, H1, I1, r1, by
    obtain ⟨p, xs, rfl, e, hx, hi⟩ := hv.list_at
    refine ⟨p, xs, rfl, .inl ⟨.inl (.inl e), fun l hl => ?_⟩⟩
    have gn := Gr.new (o := .tup xs) tk hl
    have hv := hi.mono gn
    exact k _ _ gn (.tup upd_same (tk.notX hl) hv.1 hv.2)⟩) fun _ _ z => z
/-- roll > 0, roll == 0: the truth of a compare with a roll on the left -/
theorem tt_roll {C : Cx} {a : Expr} {op : CmpOp} {F : Int → Int → Bool} {σ : L2.St} {H : Hp} {pos : Pos} {n : Int} {j : Nat} {p : Pos} {Q : Bool → Hp → Prop} (ho : OpR C (compareOp op) (rI0 fun i j => .bl (F i j))) (h : tS C a σ H fun v H1 => ∃ r : Int, v = .int r ∧ Q (F r n) H1) (hm : behindInMarks op (.Constant (.int n) j p) = false := by rfl) : tST C (.Compare a [op] [.Constant (.int n) j p] pos) σ H Q :=
  of_pt (pt_cmpR ho pe_S pe_int hm) fun pins s I => wpAny_mono (h pins s I) (fun u s1 ⟨v, H1, I1, r1, r, e, q⟩ => ⟨v, H1, I1, r1, r, n, e, rfl, _, rfl, q⟩) fun _ _ z => z
/-- roll == 0 -/
theorem tt_rollE {C : Cx} {a : Expr} {σ : L2.St} {H : Hp} {pos : Pos} {n : Int} {j : Nat} {p : Pos} {Q : Bool → Hp → Prop} (h : tS C a σ H fun v H1 => ∃ r : Int, v = .int r ∧ Q (decide (r = n)) H1) (hm : behindInMarks .Eq (.Constant (.int n) j p) = false := by rfl) : tST C (.Compare a [.Eq] [.Constant (.int n) j p] pos) σ H Q :=
  of_pt (pt_cmpR op_eq pe_S pe_int hm) fun pins s I => wpAny_mono (h pins s I) (fun u s1 ⟨v, H1, I1, r1, r, e, q⟩ => ⟨v, H1, I1, r1, by
    subst e
    have e2 : decide (V.int r = V.int n) = decide (r = n) := by
      by_cases h : r = n
      · rw [h]; simp
      · rw [decide_eq_false h, decide_eq_false fun z => h (by cases z; rfl)]
    refine ⟨rfl, _, rfl, ?_⟩
    rw [e2]
    exact q⟩) fun _ _ z => z
theorem rangeD_len (n : Nat) : (rangeD n).length = n := by unfold rangeD; rw [List.length_map, List.length_range]
theorem lf_range {n : Nat} : ∀ d ∈ rangeD n, LF d := fun d hd => by
  rw [rangeD_places] at hd
  obtain ⟨i, _, rfl⟩ := List.mem_map.mp hd
  exact .int i
theorem diceU {H : Hp} {D : Addr} (dc : DiceAt H D) : ∀ (L : Addr) (H5 : Hp) (u : HO), H L = none → DiceAt H5 D → DiceAt (upd H5 L u) D := fun L H5 u hL d => by
  obtain ⟨x, y, z, e⟩ := d
  refine ⟨x, y, z, ?_⟩
  rw [upd_ne fun h => ?_]
  · exact e
  · obtain ⟨x', y', z', e'⟩ := dc
    rw [h, hL] at e'
    cases e'
theorem unI_take {n i : Nat} {d : PyData} (h : (rangeD n)[i]? = some d) : unI ((rangeD n).take (i + 1)) = unI ((rangeD n).take i) ++ [(i : Int)] := by
  rw [take_at h, (rangeD_at h).2]
  unfold unI
  rw [List.map_append]
  rfl
theorem unI_range (n : Nat) : unI (rangeD n) = places n := by rw [rangeD_places, unI_iD]
/-- law's slots: the script, the dice, l, then k empty ones -/
abbrev zB (a D : Addr) (l : List (Option V)) (k : Nat) : L2.St := some (.ref a) :: some (.ref D) :: (l ++ List.replicate k none)
abbrev lawS (i : Nat) : Stmt := lawB.getD i (.Pass ⟨0, 0, 0, 0⟩)
section
variable {P : Program} {w : World} {K : PySem.W.Frag} {mg : Str → Option Value} {base : Heap} {f c : Addr} {A : Around} {outer : List Env} {s0 : Shared} {H0 : Hp} {E0' : XK} {C : Cx} {B : Amb} {H : Hp} {a D : Addr} {Dn : Ends} {fR : Addr} {fdR : FuncData}
/-- many, wide = 1 + roll, 1 + roll -/
theorem law_s0 (hC : C = lawC P w K mg base f c A outer s0 H0 E0') (Z : Rl K mg fR fdR) (hr : Room 8 C.A) (tk : TK B H) (hX : D ∈ B.X) (dc : DiceAt H D)
    (q : ∀ (n m : Nat) H', 1 ≤ n → n ≤ 3 → 1 ≤ m → m ≤ 3 → Gw B [D] H H' → DiceAt H' D → Dn.nx (zB a D [some (.int (n : Int)), some (.int (m : Int))] 18) H') : sS C (lawS 0) Dn (zB a D [] 20) H := by
  subst hC
  refine s_twoT (B := B) (i := 2) (j := 3) rfl scLaw.nd rfl rfl (.inr rfl) (.inr rfl) (.inl rfl) (.inl rfl)
    (t_addR (t_roll rfl rfl Z (k := 0) (hr.mono (by decide)) rfl tk hX dc (m := 3) (by decide) (by decide) (ex_var 1) ev_int fun H1 r1 w1 d1 r10 r11 => ⟨r1, rfl,
      t_addR (t_roll rfl rfl Z (k := 0) (hr.mono (by decide)) rfl w1.tk hX d1 (m := 3) (by decide) (by decide) (ex_var 1) ev_int fun H2 r2 w2 d2 r20 r21 => ⟨r2, rfl, w2.tk, fun H' g' => ?_⟩)⟩))
  have e1 : 1 + r1 = (((1 + r1).toNat : Nat) : Int) := by omega
  have e2 : 1 + r2 = (((1 + r2).toNat : Nat) : Int) := by omega
  rw [e1, e2]
  exact q _ _ H' (by omega) (by omega) (by omega) (by omega) ((w1.trans w2).trans g'.w) (d2.mono g')
abbrev scLists : Scope := lcScope (lawS 1)
theorem law_s1 (hC : C = lawC P w K mg base f c A outer s0 H0 E0') (Z : Rl K mg fR fdR) (hr : Room 8 C.A) (rg : mg "range" = none) (tp : mg "tuple" = none) {n m : Nat} (hn : n ≤ 3) (hm : m ≤ 3) (tk : TK B H) (hX : D ∈ B.X) (dc : DiceAt H D)
    (q : ∀ H' vl (rows : List (List Int)), Gw B [D] H H' → DiceAt H' D → rows.length = n → (∀ row ∈ rows, row.Sublist (places m)) → Is B.X H' vl (listsD rows) → Dn.nx (zB a D [some (.int (n : Int)), some (.int (m : Int)), some vl] 17) H') :
    sS C (lawS 1) Dn (zB a D [some (.int (n : Int)), some (.int (m : Int))] 18) H := by
  subst hC
  have hS : ∀ {B' : Amb}, D ∈ B'.X → ∀ a ∈ [D], a ∈ B'.X := fun h a ha => by rw [List.mem_singleton.mp ha]; exact h
  refine s_set 4 scLaw.nd (t_lcX (B := B) (S := [D]) (Inv := fun H => DiceAt H D) (R := fun ds os => ∃ rows : List (List Int), os = rows.map rowD ∧ rows.length = ds.length ∧ ∀ row ∈ rows, row.Sublist (places m)) (own := [("_law_k", 20)]) (pat := .nm 20) (xs := rangeD n)
    tk (ei_range rfl rg (ex_var 2).int (by omega)) (hS hX) (by rw [rangeD_len]; omega) rfl scLaw.nd (blk_by (N := nLaw) (sc := defScope sLaw) (by decide +kernel)) (fun B' => eg_bn scLaw.nd) (fun _ _ => True.intro) lf_range ⟨[], rfl, rfl, fun r hr => nomatch hr⟩ dc (fun H4 H5 g d => d.mono g) (diceU dc) ?_ ?_)
  · rintro L hL hLX i d hd o ⟨rows, rfl, hlen, hsub⟩ H3 σ2 w3 d3 ⟨u, rfl, hu⟩
    obtain ⟨hin, rfl⟩ := rangeD_at hd
    rw [hu.int_eq]
    have hXp : D ∈ (B.plus [L]).X := List.mem_append_right _ hX
    refine ⟨rfl, turn_all fun Q q2 C' hC' => ?_⟩
    obtain ⟨s', H', cc, cl, fp, rfl⟩ := hC'
    refine t_tupleOf (B := B.plus [L]) rfl tp (t_lcX (B := B.plus [L]) (S := [D]) (Inv := fun H => DiceAt H D) (R := fun ds os => ∃ row : List Int, os = iD row ∧ row.Sublist (unI ds)) (own := [("_law_room", 19)]) (pat := .nm 19) (xs := rangeD m)
      w3.tk (ei_range rfl rg (ex_var 3).int (by omega)) (hS hXp) (by rw [rangeD_len]; omega) rfl scLaw.nd (blk_as (N := nLaw) (sc := recell scLists) (by decide +kernel) rfl) (fun B' => eg_bn scLaw.nd) (fun _ _ => True.intro) lf_range ⟨[], rfl, .slnil⟩ d3 (fun H4 H5 g d => d.mono g) (diceU d3) ?_ ?_)
    · rintro L2 hL2 hL2X i2 dd hdd o2 ⟨row, rfl, hrow⟩ H5 σ3 w5 d5 ⟨u2, rfl, hu2⟩
      obtain ⟨hin2, rfl⟩ := rangeD_at hdd
      rw [hu2.int_eq]
      have hXpp : D ∈ ((B.plus [L]).plus [L2]).X := List.mem_append_right _ hXp
      refine ⟨rfl, turn_if fun Q3 q3 C3 hC3 => ?_⟩
      obtain ⟨s3, H3', cc3, cl3, fp3, rfl⟩ := hC3
      refine tt_roll op_gt (t_roll rfl rfl Z (k := 0) (hr.mono (by decide)) rfl w5.tk hXpp d5 (m := 3) (by decide) (by decide) (ex_var 1) ev_int fun H6 r w6 d6 r0 r1 => ⟨r, rfl, ?_⟩)
      by_cases hb : 0 < r
      · rw [decide_eq_true hb]
        refine (q3 H6 w6 d6).2 fun Q4 k4 C5 hC5 => ?_
        obtain ⟨s5, H5', cc5, cl5, fp5, rfl⟩ := hC5
        refine EV.go (B := (B.plus [L]).plus [L2]) (d := .int (i2 : Int)) w6.tk (ex_var 19).int fun v7 H7 g7 hv7 => k4 v7 (.int (i2 : Int)) H7 (w6.trans g7.w) (d6.mono g7) hv7 ⟨row ++ [(i2 : Int)], ?_, ?_⟩
        · unfold iD; rw [List.map_append]; rfl
        · rw [unI_take hdd]
          exact hrow.append (.refl _)
      · rw [decide_eq_false hb]
        refine (q3 H6 w6 d6).1 ⟨row, rfl, ?_⟩
        rw [unI_take hdd]
        exact hrow.trans (List.sublist_append_left _ _)
    · rintro v5 H5 ds w5 d5 ⟨row, rfl, hrow⟩ h5
      rw [unI_range] at hrow
      refine ⟨iD row, w5.tk, h5, fun v6 H6 g6 h6 => q2 v6 (rowD row) H6 (w5.trans g6.w) (d5.mono g6) h6 ⟨rows ++ [row], ?_, ?_, ?_⟩⟩
      · rw [List.map_append]; rfl
      · rw [List.length_append, hlen, List.length_take, List.length_take, rangeD_len, List.length_singleton]; omega
      · intro r hr
        rcases List.mem_append.mp hr with hr | hr
        · exact hsub r hr
        · rw [List.mem_singleton.mp hr]; exact hrow
  · rintro v5 H5 ds w5 d5 ⟨rows, rfl, hlen, hsub⟩ h5
    rw [rangeD_len] at hlen
    exact q H5 v5 rows w5 d5 hlen hsub h5
/-- askers, rooms = bounds, bounds -/
theorem law_s2 (hC : C = lawC P w K mg base f c A outer s0 H0 E0') (Fb : FO P w K mg base CX0 2 "_law_bounds" ["_law_dice_here", "_law_many"] spBounds) (hr : Room 8 C.A) {n m : Nat} {vl : V} (hn : n ≤ 3) (hm : m ≤ 3) (tk : TK B H) (hX : D ∈ B.X) (dc : DiceAt H D)
    (q : ∀ H' va vr pa pr, Gw B [D] H H' → DiceAt H' D → GoodB pa → pa.length = n → GoodB pr → pr.length = m → Is B.X H' va (.list (pa.map pD)) → Is B.X H' vr (.list (pr.map pD)) → Dn.nx (zB a D [some (.int (n : Int)), some (.int (m : Int)), some vl, some va, some vr] 15) H') :
    sS C (lawS 2) Dn (zB a D [some (.int (n : Int)), some (.int (m : Int)), some vl] 17) H := by
  subst hC
  have hS : ∀ a ∈ [D], a ∈ B.X := fun a ha => by rw [List.mem_singleton.mp ha]; exact hX
  refine s_twoT (B := B) (i := 5) (j := 6) rfl scLaw.nd rfl rfl (.inr rfl) (.inr rfl) (.inl rfl) (.inl rfl)
    (t_fo (E := fun _ _ _ => False) Fb (hr.mono (by decide)) pass0 rfl tk (eap_x (ex_var 1) (eap_x (ex_var 2) eap_nil)) fun H1 vs g1 hvs => ?_)
  obtain ⟨ws, rfl, ws2, rfl, rfl⟩ := hvs
  refine ⟨B, D, n, rfl, g1.tk, hX, dc.mono g1, by omega, fun H2 va pa w2 d2 ga la ia => ?_⟩
  refine t_fo (E := fun _ _ _ => False) Fb (hr.mono (by decide)) pass0 rfl w2.tk (eap_x (ex_var 1) (eap_x (ex_var 3) eap_nil)) fun H3 vs g3 hvs => ?_
  obtain ⟨ws, rfl, ws2, rfl, rfl⟩ := hvs
  refine ⟨B, D, m, rfl, g3.tk, hX, d2.mono g3, by omega, fun H4 vr pr w4 d4 gr lr ir => ?_⟩
  have w14 := (g1.w.trans w2).trans (g3.w.trans w4)
  exact ⟨w4.tk, fun H5 g5 => q H5 va vr pa pr (w14.trans g5.w) (d4.mono g5) ga la gr lr ((w4.is hS (ia.mono g3)).mono g5) (ir.mono g5)⟩
/-- wants = Wants(lists, askers, rooms) -/
theorem law_s3 {Cw cBS fW cW PW : Addr} {fdW : FuncData} (hC : C = lawC P w K mg base f c A outer s0 H0 E0') (X : WTx K mg Cw cBS) (M : MkW K mg base Cw fW cW PW fdW) (hr : Room 8 C.A) {W : Wt} {vl va vr : V} {x2 x3 : Option V} (tk : TK B H) (hPW : PW ∈ B.TG) (hl : Is B.X H vl (listsD W.lists)) (ha : Is B.X H va (.list (W.askers.map pD))) (hrm : Is B.X H vr (.list (W.rooms.map pD)))
    (ok : wantsOk W = true) (hrows : ∀ row ∈ W.lists, row.Pairwise (· < ·) ∧ row.length ≤ 60) (l1 : W.lists.length ≤ 1000) (l2 : W.askers.length ≤ 1000) (l3 : W.rooms.length ≤ 1000)
    (q : ∀ H' p, Gr B H H' → WantAt B.X Cw H' p W → Dn.nx (zB a D [x2, x3, some vl, some va, some vr, some (.ref p)] 14) H') :
    sS C (lawS 3) Dn (zB a D [x2, x3, some vl, some va, some vr] 15) H := by
  subst hC
  exact s_set 7 scLaw.nd (t_wants (k := 4) (E := fun _ _ _ => False) rfl rfl rfl X M (hr.mono (by decide)) rfl passN tk hPW (ev_var 4 (hd := hl)) (ev_var 5 (hd := ha)) (.inl rfl) (ev_var 6 (hd := hrm)) (.inl rfl) hrows l1 l2 l3 (fun _ p H' g WA => q H' p g WA) (fun z => by rw [ok] at z; cases z))
end
end K22
end
section
set_option Elab.async false
set_option linter.all false
set_option maxRecDepth 100000
set_option maxHeartbeats 4000000
/-! K22TopD: law's body: lots, best, what most and most_cut tell, the first test. -/
namespace K22
open PySem PySem.Spec PyProof.Rows L2 LamX NdefX Pm
/-- what stands behind the setup -/
structure LD (B : Amb) (Cw D : Addr) (W : Wt) (vl va vr : V) (p : Addr) (H : Hp) : Prop where
  tk : TK B H
  dx : D ∈ B.X
  dc : DiceAt H D
  wa : WantAt B.X Cw H p W
  il : Is B.X H vl (listsD W.lists)
  ia : Is B.X H va (.list (W.askers.map pD))
  ir : Is B.X H vr (.list (W.rooms.map pD))
/-- the wants are as law rolls them -/
structure WG (W : Wt) : Prop where
  ok : W.Ok
  sm : Small W
  wo : wantsOk W = true
  hl : W.askers.length = W.lists.length
  n1 : 1 ≤ W.lists.length
  n3 : W.lists.length ≤ 3
  m1 : 1 ≤ W.rooms.length
  m3 : W.rooms.length ≤ 3
  rows : ∀ row ∈ W.lists, row.Sublist (places W.m)
theorem one_in {B : Amb} {D : Addr} (h : D ∈ B.X) : ∀ a ∈ [D], a ∈ B.X := fun a ha => by rw [List.mem_singleton.mp ha]; exact h
theorem LD.gr {B : Amb} {Cw D : Addr} {W : Wt} {vl va vr : V} {p : Addr} {H H' : Hp} (L : LD B Cw D W vl va vr p H) (g : Gr B H H') : LD B Cw D W vl va vr p H' :=
  ⟨g.tk, L.dx, L.dc.mono g, L.wa.mono g, L.il.mono g, L.ia.mono g, L.ir.mono g⟩
theorem LD.gw {B : Amb} {Cw D : Addr} {W : Wt} {vl va vr : V} {p : Addr} {H H' : Hp} (L : LD B Cw D W vl va vr p H) (g : Gw B [D] H H') (d : DiceAt H' D) : LD B Cw D W vl va vr p H' := by
  refine ⟨g.tk, L.dx, d, L.wa.w g (one_in L.dx) (fun z => ?_), g.is (one_in L.dx) L.il, g.is (one_in L.dx) L.ia, g.is (one_in L.dx) L.ir⟩
  obtain ⟨dx, l, a, r, e, _⟩ := L.wa.ex
  obtain ⟨x, y, z', e'⟩ := L.dc
  rw [List.mem_singleton.mp z, e'] at e
  cases e
theorem Gw.gr0 {B : Amb} {H H' : Hp} (g : Gw B [] H H') : Gr B H H' := ⟨fun a o e n => g.keep a o e n (fun z => nomatch z), g.tk, g.dom⟩
theorem WG.row3 {W : Wt} (G : WG W) (a : Nat) : (W.row a).length ≤ 3 := by
  rcases row_of (W := W) (a := a) with e | e
  · rw [e]; show 0 ≤ 3; omega
  · have h := (G.rows _ e).length_le
    have : (places W.m).length = W.m := by unfold places; rw [List.length_map, List.length_range]
    have e2 : W.m = W.rooms.length := rfl
    have := G.m3
    omega
theorem WG.pairs9 {W : Wt} (G : WG W) : (pairsAll W).length ≤ 9 := by
  unfold pairsAll
  have h := flat_len (l := List.range W.n) (f := fun a => (W.row a).map fun r => ((a : Int), r)) (c := 3) fun a _ => by rw [List.length_map]; exact G.row3 a
  rw [List.length_range] at h
  have e : W.n = W.lists.length := rfl
  have := G.n3
  omega
theorem WG.row_at {W : Wt} (G : WG W) {i : Nat} (h : i < W.n) : (W.lists.map rowD)[i]? = some (rowD (W.row i)) := by
  have e : W.n = W.lists.length := rfl
  rw [List.getElem?_map, List.getElem?_eq_getElem (by omega)]
  unfold Wt.row
  rw [List.getD_eq_getElem?_getD, List.getElem?_eq_getElem (by omega)]
  rfl
section
variable {B : Amb} {C : Cx} {e a b : Expr} {σ : L2.St} {H : Hp} {pos p1 : Pos}
theorem evp_fo {k : Nat} {ps : List Str} {sp : Sp} {x : Str} {px : Pos} {es : List Expr} {PV : V → Hp → Prop} {CXt : CXT} {E : XK} (F : FO C.prog C.w C.K C.mg C.base CXt k x ps sp) (hr : Room k C.A) (hx : Passes CXt C E) (hg : Gl C x)
    {R : List V → Hp → Prop} (ha : EAP B C (e :: es) σ H R) (hsp : ∀ H2 vs (Q : VK), Gr B H H2 → R vs H2 → (∀ v H3, Gr B H2 H3 → PV v H3 → Q v H3) → sp vs H2 Q E)
    (hdb : (x == ("__debug__" : Str)) = false := by decide) (he : starEach (e :: es) C.env = (false, eval e C.env) :: starEach es C.env := by rfl) (hpl : (backTo pos (starEach es C.env)).any (·.1) = false := by rfl) : EVP B C (.Call (.Name x px) (e :: es) [] pos) σ H PV := by
  obtain ⟨f, fd, h1, h2, h3, h4⟩ := F
  exact evp_call h1 hr h2 hx hg h3 h4 ha hsp hdb he hpl
theorem eap_one {P : V → Hp → Prop} (h : EVP B C e σ H P) (hs : starEach [e] C.env = (false, eval e C.env) :: starEach [] C.env := by rfl) : EAP B C [e] σ H fun vs H2 => ∃ v, vs = [v] ∧ P v H2 := ⟨_, pa_cons pe_S pa_nil hs, fun H1 g Q q => h H1 g _ fun v H2 g2 hv => q [v] H2 g2 ⟨v, rfl, hv⟩⟩
theorem co_neB {x y : Bool} : CO B C .NotEq (.bool x) (.bool y) (!decide (x = y)) := ⟨_, op_ne, fun u v H hx hy Q q => by
  rw [hx.bl_eq, hy.bl_eq]
  refine ⟨rfl, ?_⟩
  have e : decide (V.bl x = V.bl y) = decide (x = y) := by cases x <;> cases y <;> decide
  rw [e]
  exact q⟩
/-- max(e) -/
theorem t_max {ks : List Int} {Q : VK} (hc : C.calm = true) (hg : Gl C "max") (hm : C.mg "max" = none) (hn : ks ≠ []) (tk : TK B H) (ha : EV B C a σ H (.list (iD ks))) (q : ∀ m H2, Gr B H H2 → m ∈ ks → (∀ y ∈ ks, y ≤ m) → Q (.int m) H2) (hs : starEach [a] C.env = (false, eval a C.env) :: starEach [] C.env := by rfl) : tS C (.Call (.Name "max" p1) [a] [] pos) σ H Q :=
  of_pe (pe_callB (cr_max hc) hg hm (by decide +kernel) (pa_cons pe_S pa_nil hs) (he := hs)) (ha.go tk fun v H2 g2 hv => by
    obtain ⟨p, xs, rfl, e, hx, hi⟩ := hv.list_at
    have := Iss.ints (ks := ks) hi
    subst this
    exact ⟨p, ks, rfl, .inl (.inl e), List.length_pos_iff.mpr hn, fun m h1 h2 => q m H2 g2 h1 h2⟩)
end
def unP : PyData → Int × Int
  | .tuple [.int x, .int y] => (x, y)
  | _ => (0, 0)
def unL : PyData → Lot
  | .tuple ds => ds.map unP
  | _ => []
theorem unL_lotD (l : Lot) : unL (lotD l) = l := by
  show (l.map pD).map unP = l
  rw [List.map_map]
  exact List.map_id' l
section
variable {P : Program} {w : World} {K : PySem.W.Frag} {mg : Str → Option Value} {base : Heap} {f c : Addr} {A : Around} {outer : List Env} {s0 : Shared} {H0 : Hp} {E0' : XK} {C : Cx} {e : Expr} {B : Amb} {H : Hp} {a D : Addr} {Dn : Ends} {Cw cBS : Addr} {W : Wt} {vl va vr : V} {p : Addr}
/-- law's slots behind the setup -/
abbrev zW (a D : Addr) (W : Wt) (vl va vr : V) (p : Addr) (l : List (Option V)) (k : Nat) : L2.St := zB a D (some (.int (W.n : Int)) :: some (.int (W.m : Int)) :: some vl :: some va :: some vr :: some (.ref p) :: l) k
def oPr (k : Int) : PyData → Option PyData
  | .int r => some (pD (k, r))
  | _ => none
theorem oPr_iD (k : Int) (row : List Int) : (iD row).filterMap (oPr k) = (row.map fun r => (k, r)).map pD := by
  unfold iD
  rw [fm_map (enc := PyData.int) (outs := oPr k) (f := fun r => pD (k, r)) (fun r => rfl), List.map_map]
  rfl
abbrev scRows : Scope := match lawS 4 with
  | .Assign _ (.Call _ [.Call _ [.ListComp _ _ sc _] _ _] _ _) _ => sc
  | _ => default
def pairRows (W : Wt) (ks : List Int) : List (List PyData) := ks.map fun k => ((W.row k.toNat).map fun r => (k, r)).map pD
theorem pairRows_flat (W : Wt) : (pairRows W (places W.n)).flatten = (pairsAll W).map pD := by
  unfold pairRows places pairsAll
  rw [List.map_map, List.flatMap, List.map_flatten, List.map_map]
  rfl
/-- [[(k, room) for room in lists[k]] for k in range(many)] -/
theorem ev_rows (hC : C = lawC P w K mg base f c A outer s0 H0 E0') (rg : mg "range" = none) (G : WG W) (L : LD B Cw D W vl va vr p H)
    (he : e = (match lawS 4 with | .Assign _ (.Call _ [.Call _ [e] _ _] _ _) _ => e | _ => .Name "" ⟨0, 0, 0, 0⟩)) : EV B C e (zW a D W vl va vr p [] 14) H (.list ((pairRows W (places W.n)).map PyData.list)) := fun H00 g00 Q q => by
  replace L := L.gr g00
  clear g00
  revert L q
  generalize H00 = H
  intro q L
  subst hC he
  have n3 : W.n ≤ 3 := G.n3
  refine t_lcX (B := B) (S := []) (Inv := fun _ => True) (R := fun ds os => os = (pairRows W (unI ds)).map PyData.list) (own := [("_law_k", 20)]) (pat := .nm 20) (xs := rangeD W.n) L.tk (ei_range rfl rg (ex_var 2).int (by omega)) (fun a ha => nomatch ha) (by rw [rangeD_len]; omega) rfl scLaw.nd (blk_by (N := nLaw) (sc := defScope sLaw) (by decide +kernel))
    (fun B' => eg_nm fun C' hC' => ?_) (fun _ _ => True.intro) lf_range rfl True.intro (fun _ _ _ _ => True.intro) (fun _ _ _ _ _ => True.intro) ?_ ?_
  · obtain ⟨s', H', cc, cl, fp, rfl⟩ := hC'
    exact pg_name scLaw.nd rfl (.inr rfl) (.inl rfl)
  · rintro L2 hL2 hLX i d hd o rfl H3 σ2 w3 _ ⟨u, rfl, hu⟩
    have hstep := unI_take hd
    obtain ⟨hin, rfl⟩ := rangeD_at hd
    rw [hu.int_eq]
    have g3 : Gr B H H3 := ⟨fun a o e n => w3.keep a o e n (fun z => nomatch z), w3.tk.minus, w3.dom⟩
    have il3 : Is (B.plus [L2]).X H3 vl (listsD W.lists) := by
      have := L.il.plus (l := [L2]) fun a ha => by rw [List.mem_singleton.mp ha]; exact hL2
      exact w3.is (fun a ha => nomatch ha) this
    refine ⟨rfl, turn_all fun Q q2 C' hC' => ?_⟩
    obtain ⟨s', H', cc, cl, fp, rfl⟩ := hC'
    refine EV.go (B := B.plus [L2]) w3.tk (EV.to (ev_lc (own := [("_law_room", 19)]) (pat := .nm 19) (xs := iD (W.row i)) (outs := oPr (i : Int)) (ei_tup (ev_ix (ev_var 4 (hd := il3)) (.inl rfl) (ex_var 20).int rfl (G.row_at hin)))
      (by rw [iD_len]; have := G.row3 i; omega) rfl scLaw.nd (blk_as (N := nLaw) (sc := recell scRows) (by decide +kernel) rfl) (eg_bn scLaw.nd) (fun d hd => True.intro) ?_ ?_) (congrArg PyData.list (oPr_iD (i : Int) (W.row i)))) fun v4 H4 g4 hv4 => q2 v4 _ H4 g4.w True.intro hv4 ?_
    · intro d hd d' hd'
      obtain ⟨r, _, rfl⟩ := List.mem_map.mp hd
      cases hd'
      exact lf_pair (.int _) (.int _)
    · intro d hd H5 σ3 g5 hput
      obtain ⟨r, _, rfl⟩ := List.mem_map.mp hd
      obtain ⟨u5, rfl, hu5⟩ := hput
      rw [hu5.int_eq]
      refine ⟨rfl, item_all fun C' hC' => ?_⟩
      obtain ⟨s'', H'', c', cl', fp', rfl⟩ := hC'
      exact ev_tup (ea_cons (ex_var 20).int (ea_cons (ex_var 19).int ea_nil)) (by show 2 ≤ sizeLine; decide)
    · rw [hstep]
      unfold pairRows
      rw [List.map_append, List.map_append]
      rfl
  · rintro v5 H5 ds w5 _ rfl h5
    rw [unI_range] at h5
    exact q v5 H5 (Gw.gr0 w5) h5
theorem pairRows_len {W : Wt} (G : WG W) : (pairRows W (places W.n)).flatten.length ≤ 1000 := by
  rw [pairRows_flat, List.length_map]
  have := G.pairs9
  omega
/-- lots = all(flat([..])) -/
theorem law_s4 (hC : C = lawC P w K mg base f c A outer s0 H0 E0') (Ff : FO P w K mg base CX0 1 "_law_flat" ["_law_rows"] spFlat) (Fa : FO P w K mg base CX0 1 "_law_all" ["_law_pairs"] spAll) (rg : mg "range" = none) (hr : Room 8 C.A) (G : WG W) (L : LD B Cw D W vl va vr p H)
    (q : ∀ H' v, Gr B H H' → Is B.X H' v (.list ((allLots (pairsAll W)).map lotD)) → Dn.nx (zW a D W vl va vr p [some v] 13) H') : sS C (lawS 4) Dn (zW a D W vl va vr p [] 14) H := by
  have hC' := hC
  subst hC
  refine s_set 8 scLaw.nd (t_fo (E := fun _ _ _ => False) Fa (hr.mono (by decide)) pass0 rfl L.tk (eap_one (P := fun v H2 => Is B.X H2 v (.list ((pairsAll W).map pD))) (evp_fo (E := fun _ _ _ => False) Ff (hr.mono (by decide)) pass0 rfl (eap_one (ev_rows (D := D) hC' rg G L rfl)) fun H2 vs Q g2 hvs q2 => ?_)) fun H1 vs g1 hvs => ?_)
  · obtain ⟨v, rfl, hv⟩ := hvs
    exact ⟨B, v, _, rfl, g2.tk, hv, pairRows_len G, fun H' v' g' hv' => q2 v' H' g' (by rw [← pairRows_flat]; exact hv')⟩
  · obtain ⟨v, rfl, hv⟩ := hvs
    have := G.pairs9
    exact ⟨B, v, _, rfl, g1.tk, hv, by omega, fun H' v' g' hv' => q H' v' (g1.trans g') hv'⟩
/-- kept(lot, askers, rooms, b) -/
theorem evp_kept {C1 : Cx} {e1 e2 e3 e4 : Expr} {p1 pos : Pos} {σ : L2.St} {l : Lot} {b : Bool} (hK : C1.K = K) (hmg : C1.mg = mg) (hbs : C1.base = base) (hP : C1.prog = P) (hw : C1.w = w) (Fk : FO P w K mg base CX0 1 "_law_kept" ["_law_lot", "_law_askers", "_law_rooms", "_law_least"] spKept) (hr : Room 1 C1.A) (hg : Gl C1 "_law_kept") (G : WG W) (hl : l.length ≤ 1000)
    (h1 : EV B C1 e1 σ H (lotD l)) (h2 : EV B C1 e2 σ H (.list (W.askers.map pD))) (h3 : EV B C1 e3 σ H (.list (W.rooms.map pD))) (h4 : EV B C1 e4 σ H (.bool b))
    (s1 : starEach [e1, e2, e3, e4] C1.env = (false, eval e1 C1.env) :: starEach [e2, e3, e4] C1.env := by rfl) (s2 : starEach [e2, e3, e4] C1.env = (false, eval e2 C1.env) :: starEach [e3, e4] C1.env := by rfl) (s3 : starEach [e3, e4] C1.env = (false, eval e3 C1.env) :: starEach [e4] C1.env := by rfl) (s4 : starEach [e4] C1.env = (false, eval e4 C1.env) :: starEach [] C1.env := by rfl)
    (hpl : (backTo pos (starEach [e2, e3, e4] C1.env)).any (·.1) = false := by rfl) : EV B C1 (.Call (.Name "_law_kept" p1) [e1, e2, e3, e4] [] pos) σ H (.bool (keptB W l b)) := by
  subst hK hmg hbs hP hw
  refine EVP.bool (evp_fo (E := fun _ _ _ => False) Fk hr pass0 hg (eap_d h1 (eap_d h2 (eap_d h3 (eap_d h4 eap_nil s4) s3) s2) s1) (fun H2 vs Q g2 hvs q => ?_) (by decide) s1 hpl)
  obtain ⟨v1, ws1, rfl, i1, v2, ws2, rfl, i2, v3, ws3, rfl, i3, v4, ws4, rfl, i4, rfl⟩ := hvs
  have n3 := G.n3
  have m3 := G.m3
  rw [i4.bl_eq]
  exact ⟨B, v1, v2, v3, W, l, b, rfl, g2.tk, i1, i2, i3, G.hl, by omega, by omega, hl, fun H' g' => q _ H' g' rfl⟩
def oLen (W : Wt) (d : PyData) : Option PyData := if keptB W (unL d) false = true then some (.int ((unL d).length : Int)) else none
theorem oLen_lots (W : Wt) (ls : List Lot) : (ls.map lotD).filterMap (oLen W) = iD ((ls.filter fun l => keptB W l false).map fun l => (l.length : Int)) := by
  rw [fm_if (enc := lotD) (outs := oLen W) (f := fun l => .int (l.length : Int)) (p := fun l => keptB W l false) (fun l => by unfold oLen; rw [unL_lotD]), iD, List.map_map]
  rfl
theorem lot_len {W : Wt} (G : WG W) {l : Lot} (h : l ∈ allLots (pairsAll W)) : l.length ≤ 9 := Nat.le_trans (allLots_len _ |>.2 l h) G.pairs9
theorem lots_len {W : Wt} (G : WG W) : (allLots (pairsAll W)).length ≤ 512 := by
  rw [(allLots_len _).1]
  exact Nat.le_trans (Nat.pow_le_pow_right (by decide) G.pairs9) (by decide)
/-- best = max([len(lot) for lot in lots if kept(lot, askers, rooms, False)]) -/
theorem law_s5 (hC : C = lawC P w K mg base f c A outer s0 H0 E0') (Fk : FO P w K mg base CX0 1 "_law_kept" ["_law_lot", "_law_askers", "_law_rooms", "_law_least"] spKept) (mx : mg "max" = none) (ln : mg "len" = none) (hr : Room 8 C.A) (G : WG W) (L : LD B Cw D W vl va vr p H) {vo : V} (io : Is B.X H vo (.list ((allLots (pairsAll W)).map lotD)))
    (q : ∀ H' b, Gr B H H' → Best W b → Dn.nx (zW a D W vl va vr p [some vo, some (.int b)] 12) H') : sS C (lawS 5) Dn (zW a D W vl va vr p [some vo] 13) H := by
  subst hC
  have hll := lots_len G
  refine s_set 9 scLaw.nd (t_max (ks := keptLens W) rfl rfl mx (keptLens_ne G.ok) L.tk (EV.to (ev_lc (own := [("_law_lot", 15)]) (pat := .nm 15) (xs := (allLots (pairsAll W)).map lotD) (outs := oLen W) (ei_list (ev_var 8 (hd := io))) (by rw [List.length_map]; omega) rfl scLaw.nd (blk_by (N := nLaw) (sc := defScope sLaw) (by decide +kernel)) (eg_bn scLaw.nd) (fun d _ => True.intro) ?_ ?_) (congrArg PyData.list (oLen_lots W _))) fun b H2 g2 h1 h2 => q H2 b g2 (best_of h1 h2))
  · intro d hd d' hd'
    unfold oLen at hd'
    split at hd'
    · cases hd'; exact .int _
    · cases hd'
  · intro d hd H3 σ2 g3 hput
    obtain ⟨l, hlm, rfl⟩ := List.mem_map.mp hd
    obtain ⟨u, rfl, hu⟩ := hput
    have hl9 := lot_len G hlm
    have ia3 := L.ia.mono g3
    have ir3 := L.ir.mono g3
    have e : oLen W (lotD l) = if keptB W l false = true then some (.int (l.length : Int)) else none := by unfold oLen; rw [unL_lotD]
    rw [e]
    refine ⟨rfl, item_if (fun C' hC' => ?_) fun _ C' hC' => ?_⟩
    · obtain ⟨s', H', cc, cl, fp, rfl⟩ := hC'
      refine et_val ?_
      exact evp_kept rfl rfl rfl rfl rfl Fk (hr.mono (by decide)) rfl G (by omega) (ev_var 15 (hd := hu)) (ev_var 5 (hd := ia3)) (ev_var 6 (hd := ir3)) ev_bl
    · obtain ⟨s', H', cc, cl, fp, rfl⟩ := hC'
      exact EV.to (ev_len rfl ln (ev_var 15 (hd := hu)) (.inr rfl)) (by rw [List.length_map])
end
end K22
end
section
set_option Elab.async false
set_option linter.all false
set_option maxRecDepth 100000
set_option maxHeartbeats 4000000
/-! K22TopE: law's body: what most, most_cut, with_least, short_cut tell, and the tests of it. -/
namespace K22
open PySem PySem.Spec PyProof.Rows L2 LamX NdefX Pm
section
variable {B : Amb} {C : Cx} {e a b : Expr} {σ : L2.St} {H : Hp} {pos p1 : Pos}
/-- x, y = a, b, plain locals -/
theorem s_par {D : Ends} {i j : Nat} {x y : Str} {px py tp pt : Pos} {kk k2 : Nat} {P R : V → Hp → Prop} (tk : TK B H) (hc : C.calm = true) (nd : C.N.Nodup) (hi : C.N[i]? = some x) (hj : C.N[j]? = some y) (hij : i ≠ j)
    (lx : C.env.scope.names.lookup x = some .local) (ly : C.env.scope.names.lookup y = some .local) (ha : EVP B C a σ H P) (hP : ∀ v H1 H2, Gr B H1 H2 → P v H1 → P v H2) (hb : EVP B C b σ H R)
    (q : ∀ v w H', Gr B H H' → P v H' → R w H' → D.nx ((σ.set i (some v)).set j (some w)) H')
    (hs1 : starEach [a, b] C.env = (false, eval a C.env) :: starEach [b] C.env := by rfl) (hs2 : starEach [b] C.env = (false, eval b C.env) :: starEach [] C.env := by rfl)
    (hw : swappedStores [.Tuple [.Name x px, .Name y py] kk tp] (.Tuple [a, b] k2 pt) C.env = pure (some [x, y]) := by rfl) (hs : swapsWithSole [.Tuple [.Name x px, .Name y py] kk tp] (.Tuple [a, b] k2 pt) pos.line C.env = pure false := by rfl) :
    sS C (.Assign [.Tuple [.Name x px, .Name y py] kk tp] (.Tuple [a, b] k2 pt) pos) D σ H :=
  of_ps (ps_par hc nd hi hj hij lx ly (pa_cons pe_S (pa_cons pe_S pa_nil hs2) hs1) hw hs) (ha H (.refl tk) _ fun v H1 g1 hv => hb H1 g1 _ fun w H2 g2 hw => ⟨v, w, rfl, q v w H2 (g1.trans g2) (hP _ _ _ g2 hv) hw⟩)
theorem co_isntB {x y : Bool} : CO B C .IsNot (.bool x) (.bool y) (!decide (x = y)) := ⟨_, op_isnot_bl, fun u v H hx hy Q q => ⟨x, y, hx.bl_eq, hy.bl_eq, q⟩⟩
theorem shaped_lots (ls : List Lot) : SeqAt.shaped (.list (ls.map lotD)) = true := (pl_list (n := 2) fun d hd => by
  obtain ⟨l, _, rfl⟩ := List.mem_map.mp hd
  exact pl_lotD l).shaped (by decide)
theorem shaped_nil : SeqAt.shaped (.list []) = true := (pl_list (n := 0) fun d hd => by cases hd).shaped (by decide)
theorem shaped_lot (l : Lot) : SeqAt.shaped (lotD l) = true := (pl_lotD l).shaped (by decide)
theorem Room.u65 {k : Nat} {A : Around} (r : Room k A) : A.units + 65 < cLine := by have := r.un; omega
end
/-- what law's body needs of the tables -/
structure TGs (B : Amb) (PS PLa PLk PW PWo PKe PCh : Addr) : Prop where
  s : PS ∈ B.TG
  la : PLa ∈ B.TG
  lk : PLk ∈ B.TG
  w : PW ∈ B.TG
  wo : PWo ∈ B.TG
  ke : PKe ∈ B.TG
  ch : PCh ∈ B.TG
section
variable {P : Program} {w : World} {K : PySem.W.Frag} {mg : Str → Option Value} {base : Heap} {f c : Addr} {A : Around} {outer : List Env} {s0 : Shared} {H0 : Hp} {E0' : XK} {C : Cx} {e : Expr} {B : Amb} {H : Hp} {a D : Addr} {Dn : Ends} {W : Wt} {vl va vr : V} {p : Addr}
variable {Cw cBS cBP PS PLa PLk PW PWo PKe PCh gT c1 c2 c3 c6 c7 c8 c9 : Addr}
/-- cut_worth(wants, cut) -/
theorem evp_worth {C1 : Cx} {e1 e2 : Expr} {p1 pos : Pos} {σ : L2.St} {A1 R1 : List Int} (hK : C1.K = K) (hmg : C1.mg = mg) (hbs : C1.base = base) (hP : C1.prog = P) (hw : C1.w = w) (Fo : FO P w K mg base CX0 3 "cut_worth" ["wants", "cut"] (spWorth Cw PWo PLk)) (hr : Room 3 C1.A) (hg : Gl C1 "cut_worth") (hT : PWo ∈ B.TG) (hT2 : PLk ∈ B.TG) (wa : WantAt B.X Cw H p W) (ok : W.Ok) (sm : Small W)
    (h1 : EX B C1 e1 σ H (.ref p)) (h2 : EV B C1 e2 σ H (cutD A1 R1)) (sd : Sides W A1 R1)
    (s1 : starEach [e1, e2] C1.env = (false, eval e1 C1.env) :: starEach [e2] C1.env := by rfl) (s2 : starEach [e2] C1.env = (false, eval e2 C1.env) :: starEach [] C1.env := by rfl)
    (hpl : (backTo pos (starEach [e2] C1.env)).any (·.1) = false := by rfl) : EV B C1 (.Call (.Name "cut_worth" p1) [e1, e2] [] pos) σ H (.int (cutWorth W A1 R1)) := by
  subst hK hmg hbs hP hw
  refine EVP.int (evp_fo (E := fun _ _ _ => False) Fo hr pass0 hg (eap_x h1 (eap_d h2 eap_nil s2) s1) (fun H2 vs Q g2 hvs q => ?_) (by decide) s1 hpl)
  obtain ⟨ws1, rfl, v2, ws2, rfl, i2, rfl⟩ := hvs
  exact ⟨B, p, v2, W, A1, R1, rfl, g2.tk, hT, hT2, wa.mono g2, ok, sm, i2, sd, fun H' g' => q _ H' g' rfl⟩
/-- told_now, cut = most(wants), most_cut(wants) -/
theorem law_s6 (hC : C = lawC P w K mg base f c A outer s0 H0 E0') (Fm : FO P w K mg base CX0 5 "most" ["wants"] (spMost Cw PS PLa)) (Fc : FO P w K mg base CX0 5 "most_cut" ["wants"] (spMostCut Cw PS PLa)) (hr : Room 8 C.A) (T : TGs B PS PLa PLk PW PWo PKe PCh) (G : WG W) (L : LD B Cw D W vl va vr p H) {x8 x9 : Option V}
    (q : ∀ H' v1 v2 Pp A1 R1, Gr B H H' → MostR W Pp → CutR W A1 R1 → Is B.X H' v1 (lotD Pp) → Is B.X H' v2 (cutD A1 R1) → Dn.nx (zW a D W vl va vr p [x8, x9, some v1, some v2] 10) H') : sS C (lawS 6) Dn (zW a D W vl va vr p [x8, x9] 12) H := by
  subst hC
  refine s_par (i := 10) (j := 11) (P := fun v H2 => ∃ Pp, MostR W Pp ∧ Is B.X H2 v (lotD Pp)) (R := fun v H2 => ∃ A1 R1, CutR W A1 R1 ∧ Is B.X H2 v (cutD A1 R1)) L.tk rfl scLaw.nd rfl rfl (by decide) rfl rfl
    (evp_fo (E := fun _ _ _ => False) Fm (hr.mono (by decide)) pass0 rfl (eap_x (ex_var 7) eap_nil) fun H2 vs Q g2 hvs q2 => ?_) (fun v H1 H2 g ⟨Pp, h1, h2⟩ => ⟨Pp, h1, h2.mono g⟩)
    (evp_fo (E := fun _ _ _ => False) Fc (hr.mono (by decide)) pass0 rfl (eap_x (ex_var 7) eap_nil) fun H2 vs Q g2 hvs q2 => ?_) fun v1 v2 H' g ⟨Pp, m1, i1⟩ ⟨A1, R1, m2, i2⟩ => q H' v1 v2 Pp A1 R1 g m1 m2 i1 i2
  · obtain ⟨ws, rfl, rfl⟩ := hvs
    exact ⟨B, p, W, rfl, g2.tk, T.s, T.la, L.wa.mono g2, G.ok, G.sm, fun v H' Pp g' m i => q2 v H' g' ⟨Pp, m, i⟩⟩
  · obtain ⟨ws, rfl, rfl⟩ := hvs
    exact ⟨B, p, W, rfl, g2.tk, T.s, T.la, L.wa.mono g2, G.ok, G.sm, fun v H' A1 R1 g' m i => q2 v H' g' ⟨A1, R1, m, i⟩⟩
theorem cut_sides {A1 R1 : List Int} (h : CutR W A1 R1) : Sides W A1 R1 := by
  obtain ⟨g, whole, S, F, rfl, rfl⟩ := h
  exact sides_of S
/-- if told_now not in lots or len(told_now) != best or not kept(told_now, ..) or cut_worth(wants, cut) != best: return False -/
theorem law_s7 (hC : C = lawC P w K mg base f c A outer s0 H0 E0') (Fk : FO P w K mg base CX0 1 "_law_kept" ["_law_lot", "_law_askers", "_law_rooms", "_law_least"] spKept) (Fo : FO P w K mg base CX0 3 "cut_worth" ["wants", "cut"] (spWorth Cw PWo PLk)) (ln : mg "len" = none) (hr : Room 8 C.A) (T : TGs B PS PLa PLk PW PWo PKe PCh) (G : WG W) (L : LD B Cw D W vl va vr p H)
    {vo v1 v2 : V} {b : Int} {Pp : Lot} {A1 R1 : List Int} (io : Is B.X H vo (.list ((allLots (pairsAll W)).map lotD))) (Bs : Best W b) (m1 : MostR W Pp) (m2 : CutR W A1 R1) (i1 : Is B.X H v1 (lotD Pp)) (i2 : Is B.X H v2 (cutD A1 R1))
    (q : ∀ H', Gr B H H' → Dn.nx (zW a D W vl va vr p [some vo, some (.int b), some v1, some v2] 10) H') : sS C (lawS 7) Dn (zW a D W vl va vr p [some vo, some (.int b), some v1, some v2] 10) H := by
  subst hC
  obtain ⟨hin, hlen, hk⟩ := law_most G.ok Bs m1
  have hcw := law_cut G.ok Bs m2
  have hl9 := lot_len G hin
  refine s_if (ET.go (B := B) (b := false || (false || (false || false))) L.tk (et_w (ew_or (ET.to (et_cmp (co_notIn (Room.u65 hr) (shaped_lot Pp) (shaped_lots _)) (ev_var 10 (hd := i1)) (ev_var 8 (hd := io))) ?_) fun _ => ew_or (ET.to (et_cmp co_neI (ev_len rfl ln (ev_var 10 (hd := i1)) (.inr rfl)) (ex_var 9).int) ?_) fun _ => ew_or (ET.to (et_not (et_val (k := keptB W Pp false) ?_)) ?_) fun _ => ew_or1 (ET.to (et_cmp (co_neI (n := cutWorth W A1 R1)) ?_ (ex_var 9).int) ?_))) fun H2 g2 => ⟨(fun z => by cases z), fun _ => ss_nil (q H2 g2)⟩)
  · rw [any_eqv eqv_lotD]; simp [hin]
  · rw [List.length_map, hlen, decide_eq_true rfl]; rfl
  · exact evp_kept rfl rfl rfl rfl rfl Fk (hr.mono (by decide)) rfl G (by omega) (ev_var 10 (hd := i1)) (ev_var 5 (hd := L.ia)) (ev_var 6 (hd := L.ir)) ev_bl
  · rw [hk]; rfl
  · exact evp_worth rfl rfl rfl rfl rfl Fo (hr.mono (by decide)) rfl T.wo T.lk L.wa G.ok G.sm (ex_var 7) (ev_var 11 (hd := i2)) (cut_sides m2)
  · rw [hcw, decide_eq_true rfl]; rfl
def oGood (W : Wt) (d : PyData) : Option PyData := if keptB W (unL d) true = true then some d else none
theorem oGood_lots (W : Wt) (ls : List Lot) : (ls.map lotD).filterMap (oGood W) = (ls.filter fun l => keptB W l true).map lotD :=
  fm_if (enc := lotD) (outs := oGood W) (f := lotD) (p := fun l => keptB W l true) (fun l => by unfold oGood; rw [unL_lotD]) ls
/-- good = [lot for lot in lots if kept(lot, askers, rooms, True)] -/
theorem law_s8 (hC : C = lawC P w K mg base f c A outer s0 H0 E0') (Fk : FO P w K mg base CX0 1 "_law_kept" ["_law_lot", "_law_askers", "_law_rooms", "_law_least"] spKept) (hr : Room 8 C.A) (G : WG W) (L : LD B Cw D W vl va vr p H) {vo : V} {x9 x10 x11 : Option V} (io : Is B.X H vo (.list ((allLots (pairsAll W)).map lotD)))
    (q : ∀ H' v, Gr B H H' → Is B.X H' v (.list ((goodLots W).map lotD)) → Dn.nx (zW a D W vl va vr p [some vo, x9, x10, x11, some v] 9) H') : sS C (lawS 8) Dn (zW a D W vl va vr p [some vo, x9, x10, x11] 10) H := by
  subst hC
  have hll := lots_len G
  refine s_setLc 12 (own := [("_law_lot", 15)]) (pat := .nm 15) (xs := (allLots (pairsAll W)).map lotD) (outs := oGood W) L.tk (ei_list (ev_var 8 (hd := io))) (by rw [List.length_map]; omega) rfl scLaw.nd (blk_by (N := nLaw) (sc := defScope sLaw) (by decide +kernel)) (eg_bn scLaw.nd) (fun d _ => True.intro) ?_ ?_ fun v H2 g2 hv => q H2 v g2 (by rw [oGood_lots] at hv; exact hv)
  · intro d hd d' hd'
    obtain ⟨l, _, rfl⟩ := List.mem_map.mp hd
    unfold oGood at hd'
    split at hd'
    · cases hd'; exact lf_lotD l
    · cases hd'
  · intro d hd H3 σ2 g3 hput
    obtain ⟨l, hlm, rfl⟩ := List.mem_map.mp hd
    obtain ⟨u, rfl, hu⟩ := hput
    have hl9 := lot_len G hlm
    have ia3 := L.ia.mono g3
    have ir3 := L.ir.mono g3
    have e : oGood W (lotD l) = if keptB W l true = true then some (lotD l) else none := by unfold oGood; rw [unL_lotD]
    rw [e]
    refine ⟨rfl, item_if (fun C' hC' => ?_) fun _ C' hC' => ?_⟩
    · obtain ⟨s', H', cc, cl, fp, rfl⟩ := hC'
      refine et_val ?_
      exact evp_kept rfl rfl rfl rfl rfl Fk (hr.mono (by decide)) rfl G (by omega) (ev_var 15 (hd := hu)) (ev_var 5 (hd := ia3)) (ev_var 6 (hd := ir3)) ev_bl
    · obtain ⟨s', H', cc, cl, fp, rfl⟩ := hC'
      exact ev_var 15 (hd := hu)
/-- kept_here, short = with_least(wants), short_cut(wants) -/
theorem law_s9 (hC : C = lawC P w K mg base f c A outer s0 H0 E0') (Fm : FO P w K mg base CX0 5 "with_least" ["wants"] (spLeast Cw PS PLa)) (Fc : FO P w K mg base CX0 5 "short_cut" ["wants"] (spShort Cw PS PLa)) (hr : Room 8 C.A) (T : TGs B PS PLa PLk PW PWo PKe PCh) (G : WG W) (L : LD B Cw D W vl va vr p H) {x8 x9 x10 x11 x12 : Option V}
    (q : ∀ H' v1 v2 o1 o2, Gr B H H' → LeastR W o1 → ShortR W o2 → Is B.X H' v1 (leastD o1) → Is B.X H' v2 (shortD o2) → Dn.nx (zW a D W vl va vr p [x8, x9, x10, x11, x12, some v1, some v2] 7) H') : sS C (lawS 9) Dn (zW a D W vl va vr p [x8, x9, x10, x11, x12] 9) H := by
  subst hC
  refine s_par (i := 13) (j := 14) (P := fun v H2 => ∃ o, LeastR W o ∧ Is B.X H2 v (leastD o)) (R := fun v H2 => ∃ o, ShortR W o ∧ Is B.X H2 v (shortD o)) L.tk rfl scLaw.nd rfl rfl (by decide) rfl rfl
    (evp_fo (E := fun _ _ _ => False) Fm (hr.mono (by decide)) pass0 rfl (eap_x (ex_var 7) eap_nil) fun H2 vs Q g2 hvs q2 => ?_) (fun v H1 H2 g ⟨o, h1, h2⟩ => ⟨o, h1, h2.mono g⟩)
    (evp_fo (E := fun _ _ _ => False) Fc (hr.mono (by decide)) pass0 rfl (eap_x (ex_var 7) eap_nil) fun H2 vs Q g2 hvs q2 => ?_) fun v1 v2 H' g ⟨o1, m1, i1⟩ ⟨o2, m2, i2⟩ => q H' v1 v2 o1 o2 g m1 m2 i1 i2
  · obtain ⟨ws, rfl, rfl⟩ := hvs
    exact ⟨B, p, W, rfl, g2.tk, T.s, T.la, L.wa.mono g2, G.ok, G.sm, fun v H' o g' m i => q2 v H' g' ⟨o, m, i⟩⟩
  · obtain ⟨ws, rfl, rfl⟩ := hvs
    exact ⟨B, p, W, rfl, g2.tk, T.s, T.la, L.wa.mono g2, G.ok, G.sm, fun v H' o g' m i => q2 v H' g' ⟨o, m, i⟩⟩
/-- if (kept_here is None) != (good == []) or (short is None) != (good != []) or kept_here is not None and kept_here not in good: return False -/
theorem law_s10 (hC : C = lawC P w K mg base f c A outer s0 H0 E0') (hr : Room 8 C.A) (G : WG W) (tk : TK B H) {vg v1 v2 : V} {x8 x9 x10 x11 : Option V} {o1 : Option Lot} {o2 : Option (List Int × List Int)} (m1 : LeastR W o1) (m2 : ShortR W o2) (ig : Is B.X H vg (.list ((goodLots W).map lotD))) (i1 : Is B.X H v1 (leastD o1)) (i2 : Is B.X H v2 (shortD o2))
    (q : ∀ H', Gr B H H' → Dn.nx (zW a D W vl va vr p [x8, x9, x10, x11, some vg, some v1, some v2] 7) H') : sS C (lawS 10) Dn (zW a D W vl va vr p [x8, x9, x10, x11, some vg, some v1, some v2] 7) H := by
  subst hC
  obtain ⟨n1, n2⟩ := law_least G.ok m1
  obtain ⟨n3, n4⟩ := law_short G.ok m2
  have hu := hr.units
  refine s_if (ET.go (B := B) (b := false || (false || false)) tk (et_w (ew_or (ET.to (et_cmp co_neB (ev_cmp co_isN (ev_var 13 (hd := i1)) ev_non) (ev_cmp (co_eq hu (shaped_lots _) shaped_nil) (ev_var 12 (hd := ig)) (ev_lst ea_nil (by show 0 ≤ sizeLine; decide)))) ?_) fun _ => ew_or (ET.to (et_cmp co_neB (ev_cmp co_isN (ev_var 14 (hd := i2)) ev_non) (ev_cmp (co_ne hu (shaped_lots _) shaped_nil) (ev_var 12 (hd := ig)) (ev_lst ea_nil (by show 0 ≤ sizeLine; decide)))) ?_) fun _ => ew_or1 ?_)) fun H2 g2 => ⟨(fun z => by cases z), fun _ => ss_nil (q H2 g2)⟩)
  · have e : PyData.eqv (.list ((goodLots W).map lotD)) (.list []) = decide (goodLots W = []) := eqv_lists (f := lotD) eqv_lotD (goodLots W) []
    rw [e]
    cases o1 with
    | none => rw [decide_eq_true (p := goodLots W = []) (n1 rfl)]; rfl
    | some Pp => rw [decide_eq_false (p := goodLots W = []) (fun z => by have := n2 Pp rfl; rw [z] at this; cases this)]; rfl
  · have e : PyData.eqv (.list ((goodLots W).map lotD)) (.list []) = decide (goodLots W = []) := eqv_lists (f := lotD) eqv_lotD (goodLots W) []
    rw [e]
    cases o2 with
    | none => rw [decide_eq_false (p := goodLots W = []) (n3 rfl)]; rfl
    | some AR => rw [decide_eq_true (p := goodLots W = []) (n4 AR.1 AR.2 rfl).1]; rfl
  · cases o1 with
    | none => exact ET.to (et_and (et_cmp co_notN (ev_var 13 (hd := i1)) ev_non) (k' := false) fun z => by cases z) rfl
    | some Pp =>
      refine ET.to (et_and (et_cmp co_notN (ev_var 13 (hd := i1)) ev_non) fun _ => et_cmp (co_notIn (Room.u65 hr) (shaped_lot Pp) (shaped_lots _)) (ev_var 13 (hd := i1)) (ev_var 12 (hd := ig))) ?_
      rw [any_eqv eqv_lotD]
      have := n2 Pp rfl
      simp [this]
/-- if short is not None and check_cut(wants, short) is not True: return False -/
theorem law_s11 (hC : C = lawC P w K mg base f c A outer s0 H0 E0') (Fc : FO P w K mg base (L2.CX P w) 3 "check_cut" ["wants", "cut"] (spCheck Cw PCh PLk cBP)) (hr : Room 8 C.A) (T : TGs B PS PLa PLk PW PWo PKe PCh) (G : WG W) (L : LD B Cw D W vl va vr p H) {v2 : V} {x8 x9 x10 x11 x12 x13 : Option V} {o2 : Option (List Int × List Int)} (m2 : ShortR W o2) (i2 : Is B.X H v2 (shortD o2))
    (q : ∀ H', Gr B H H' → Dn.nx (zW a D W vl va vr p [x8, x9, x10, x11, x12, x13, some v2] 7) H') : sS C (lawS 11) Dn (zW a D W vl va vr p [x8, x9, x10, x11, x12, x13, some v2] 7) H := by
  subst hC
  obtain ⟨n3, n4⟩ := law_short G.ok m2
  refine s_if (ET.go (B := B) (b := false) L.tk ?_ fun H2 g2 => ⟨(fun z => by cases z), fun _ => ss_nil (q H2 g2)⟩)
  cases o2 with
  | none => exact ET.to (et_and (et_cmp co_notN (ev_var 14 (hd := i2)) ev_non) (k' := false) fun z => by cases z) rfl
  | some AR =>
    obtain ⟨A1, R1⟩ := AR
    obtain ⟨_, hb, sd⟩ := n4 A1 R1 rfl
    have n3 := G.n3
    have m3 := G.m3
    have e1 : W.n = W.lists.length := rfl
    have e2 : W.m = W.rooms.length := rfl
    have l1 := len_side sd.na sd.ia
    have l2 := len_side sd.nr sd.ir
    refine ET.to (et_and (et_cmp co_notN (ev_var 14 (hd := i2)) ev_non) fun _ => et_cmp co_isntB (EVP.bool (evp_fo (E := fun _ _ _ => False) Fc (hr.mono (by decide)) passN rfl (eap_x (ex_var 7) (eap_d (ev_var 14 (hd := i2)) eap_nil)) fun H2 vs Q g2 hvs q2 => ?_)) ev_bl) (b := _ && !decide (true = true)) rfl
    obtain ⟨ws1, rfl, v3, ws2, rfl, i3, rfl⟩ := hvs
    exact ⟨B, p, v3, W, A1, R1, rfl, g2.tk, T.ch, T.lk, L.wa.mono g2, G.ok, G.sm, i3, by omega, by omega, fun _ H' g' => q2 _ H' g' rfl, fun z => by rw [cut_of_short sd hb] at z; cases z⟩
end
end K22
end
section
set_option Elab.async false
set_option linter.all false
set_option maxRecDepth 100000
set_option maxHeartbeats 4000000
/-! K22TopF: law's body: keeps over some lots, and over pairs that aren't kept. -/
namespace K22
open PySem PySem.Spec PyProof.Rows L2 LamX NdefX Pm
theorem cut_part (xs : List V) (lo hi : Option Int) : ∃ i j, cutV xs lo hi = (xs.drop i).take j := ⟨_, _, rfl⟩
theorem Iss.part {X : List Addr} {H : Hp} {xs : List V} {ds : List PyData} (h : Iss X H xs ds) (i j : Nat) : Iss X H ((xs.drop i).take j) ((ds.drop i).take j) := by
  refine ⟨by rw [List.length_take, List.length_take, List.length_drop, List.length_drop, h.1], fun n v d h1 h2 => ?_⟩
  rw [List.getElem?_take] at h1 h2
  split at h1
  · rename_i c
    rw [if_pos c, List.getElem?_drop] at h2
    rw [List.getElem?_drop] at h1
    exact h.2 _ v d h1 h2
  · cases h1
section
variable {P : Program} {w : World} {K : PySem.W.Frag} {mg : Str → Option Value} {base : Heap} {f c : Addr} {A : Around} {outer : List Env} {s0 : Shared} {H0 : Hp} {E0' : XK} {C : Cx} {e : Expr} {B : Amb} {H : Hp} {a D : Addr} {Dn : Ends} {W : Wt} {vl va vr : V} {p : Addr} {fR : Addr} {fdR : FuncData}
variable {Cw cBS cBP PS PLa PLk PW PWo PKe PCh gT c1 c2 c3 c6 c7 c8 c9 : Addr}
/-- keeps(wants, lot) -/
theorem evp_keeps {C1 : Cx} {e1 e2 : Expr} {p1 pos : Pos} {σ : L2.St} {l : Lot} (hK : C1.K = K) (hmg : C1.mg = mg) (hbs : C1.base = base) (hP : C1.prog = P) (hw : C1.w = w) (Fo : FO P w K mg base CX0 2 "keeps" ["wants", "pairs"] (spKeeps Cw PKe)) (hr : Room 2 C1.A) (hg : Gl C1 "keeps") (hT : PKe ∈ B.TG) (wa : WantAt B.X Cw H p W) (ok : W.Ok) (sm : Small W)
    (h1 : EX B C1 e1 σ H (.ref p)) (h2 : EV B C1 e2 σ H (lotD l)) (hl : l.length ≤ 1000)
    (s1 : starEach [e1, e2] C1.env = (false, eval e1 C1.env) :: starEach [e2] C1.env := by rfl) (s2 : starEach [e2] C1.env = (false, eval e2 C1.env) :: starEach [] C1.env := by rfl)
    (hpl : (backTo pos (starEach [e2] C1.env)).any (·.1) = false := by rfl) : EV B C1 (.Call (.Name "keeps" p1) [e1, e2] [] pos) σ H (.bool (keepsB W l)) := by
  subst hK hmg hbs hP hw
  refine EVP.bool (evp_fo (E := fun _ _ _ => False) Fo hr pass0 hg (eap_x h1 (eap_d h2 eap_nil s2) s1) (fun H2 vs Q g2 hvs q => ?_) (by decide) s1 hpl)
  obtain ⟨ws1, rfl, v2, ws2, rfl, i2, rfl⟩ := hvs
  exact ⟨B, p, v2, W, l, rfl, g2.tk, hT, wa.mono g2, ok, sm, i2, hl, fun H' g' => q _ H' g' rfl⟩
/-- lots[roll(dice, 5):][:8] -/
theorem t_lots {Q : VK} {x9 x10 x11 x12 x13 x14 : Option V} {vo : V} {ls : List Lot} (hC : C = lawC P w K mg base f c A outer s0 H0 E0') (Z : Rl K mg fR fdR) (hr : Room 8 C.A) (tk : TK B H) (hX : D ∈ B.X) (dc : DiceAt H D) (io : Is B.X H vo (.list (ls.map lotD)))
    (q : ∀ v H' (ls' : List Lot), Gw B [D] H H' → DiceAt H' D → (∀ l ∈ ls', l ∈ ls) → Is B.X H' v (.list (ls'.map lotD)) → Q v H')
    (he : e = (match lawS 12 with | .For _ it _ _ _ => it | _ => .Name "" ⟨0, 0, 0, 0⟩)) : tS C e (zW a D W vl va vr p [some vo, x9, x10, x11, x12, x13, x14] 7) H Q := by
  subst hC he
  refine of_pe (pe_slice sl_list (pe_slice sl_list pe_S (po_some pe_S) po_none) po_none (po_some pe_int)) (EV.go (B := B) tk (ev_var 8 (hd := io)) fun v1 H1 g1 hv1 => ?_)
  refine t_roll rfl rfl Z (k := 0) (hr.mono (by decide)) rfl g1.tk hX (dc.mono g1) (m := 5) (by decide) (by decide) (ex_var 1) ev_int fun H2 r w2 d2 r0 r1 => ⟨r, rfl, ?_⟩
  have hv2 := w2.is (one_in hX) hv1
  obtain ⟨l1, xs, rfl, e1, hx1, hi1⟩ := hv2.list_at
  refine ⟨l1, xs, rfl, .inl (.inl e1), fun p1 new1 => ?_⟩
  obtain ⟨i, j, ec⟩ := cut_part xs (some r) none
  rw [ec]
  have g3 := Gr.new (o := .lst ((xs.drop i).take j)) w2.tk new1
  have hi3 := (hi1.part i j).mono g3
  refine ⟨8, rfl, p1, _, rfl, .inl (.inl upd_same), fun p2 new2 => ?_⟩
  obtain ⟨i', j', ec'⟩ := cut_part ((xs.drop i).take j) none (some 8)
  rw [ec']
  have g4 := Gr.new (o := .lst ((((xs.drop i).take j).drop i').take j')) g3.tk new2
  have hi4 := (hi3.part i' j').mono g4
  have em : (((((ls.map lotD).drop i).take j).drop i').take j') = (((((ls.drop i).take j).drop i').take j')).map lotD := by
    rw [List.map_take, List.map_drop, List.map_take, List.map_drop]
  rw [em] at hi4
  refine q _ _ _ (g1.w.trans (w2.trans (g3.trans g4).w)) (d2.mono (g3.trans g4)) (fun l hl => List.mem_of_mem_drop (List.mem_of_mem_take (List.mem_of_mem_drop (List.mem_of_mem_take hl)))) (.lst upd_same (g3.tk.notX new2) hi4.1 hi4.2)
/-- for lot in lots[roll(dice, 5):][:8]: if keeps(wants, lot) != (lot in good): return False -/
theorem law_s12 (hC : C = lawC P w K mg base f c A outer s0 H0 E0') (Z : Rl K mg fR fdR) (Fo : FO P w K mg base CX0 2 "keeps" ["wants", "pairs"] (spKeeps Cw PKe)) (hr : Room 8 C.A) (T : TGs B PS PLa PLk PW PWo PKe PCh) (G : WG W) (L : LD B Cw D W vl va vr p H) {x9 x10 x11 x13 x14 : Option V} {vo vg : V} (io : Is B.X H vo (.list ((allLots (pairsAll W)).map lotD))) (ig : Is B.X H vg (.list ((goodLots W).map lotD)))
    (q : ∀ H' o, Gw B [D] H H' → DiceAt H' D → Dn.nx (zW a D W vl va vr p [some vo, x9, x10, x11, some vg, x13, x14, o] 6) H') : sS C (lawS 12) Dn (zW a D W vl va vr p [some vo, x9, x10, x11, some vg, x13, x14] 7) H := by
  have hC' := hC
  subst hC
  refine s_forL PassesOwn.never rfl (t_lots hC' Z hr L.tk L.dx L.dc io (fun v2 H2 ls w2 d2 hls i2 => ?_) rfl)
  have L2 := L.gw w2 d2
  have ig2 := w2.is (one_in L.dx) ig
  refine ⟨B, _, w2.tk, i2, ⟨.nm 15, fun i σ' H' => ∃ o : Option V, σ' = zW a D W vl va vr p [some vo, x9, x10, x11, some vg, x13, x14, o] 6 ∧ Gr B H2 H', eg_cn scLaw.nd rfl (.inl rfl) (.inl rfl), fun _ _ => True.intro, ⟨none, rfl, .refl w2.tk⟩, fun i σ' H' _ ⟨_, _, g⟩ => g.x, ?_, ?_⟩⟩
  · rintro i d σ' H' H3 σ2 hd ⟨o, rfl, g⟩ g3 ⟨u, rfl, hu⟩
    rw [List.getElem?_map] at hd
    obtain ⟨l, hl, rfl⟩ := Option.map_eq_some_iff.mp hd
    have hin := hls l (List.mem_of_getElem? hl)
    have hl9 := lot_len G hin
    have g23 := g.trans g3
    have L3 := L2.gr g23
    have ig3 := ig2.mono g23
    refine ss_cons (s_if (ET.go (B := B) (b := false) L3.tk (ET.to (et_cmp (co_neB (x := keepsB W l)) ?_ (ev_cmp (co_in (Room.u65 hr) (shaped_lot l) (shaped_lots _)) (ev_var 15 (hd := hu)) (ev_var 12 (hd := ig3)))) ?_) fun H4 g4 => ⟨(fun z => by cases z), fun _ => ss_nil (ss_nil ⟨_, rfl, g23.trans g4⟩)⟩))
    · exact evp_keeps rfl rfl rfl rfl rfl Fo (hr.mono (by decide)) rfl T.ke L3.wa G.ok G.sm (ex_var 7) (ev_var 15 (hd := hu)) (by omega)
    · rw [any_eqv eqv_lotD, keeps_law G.ok hin]
      by_cases hg : l ∈ goodLots W <;> simp [hg]
  · rintro σ' H' ⟨o, rfl, g⟩
    exact q H' o (w2.trans g.w) (d2.mono g)
/-- if keeps(wants, ((0, 9),)) or lists[0] != () and keeps(wants, ((0, lists[0][0]), (0, lists[0][0]))): return False -/
theorem law_s14 {l : List (Option V)} {k : Nat} (hC : C = lawC P w K mg base f c A outer s0 H0 E0') (Fo : FO P w K mg base CX0 2 "keeps" ["wants", "pairs"] (spKeeps Cw PKe)) (hr : Room 8 C.A) (T : TGs B PS PLa PLk PW PWo PKe PCh) (G : WG W) (L : LD B Cw D W vl va vr p H)
    (q : ∀ H', Gr B H H' → Dn.nx (zW a D W vl va vr p l k) H') : sS C (lawS 14) Dn (zW a D W vl va vr p l k) H := by
  subst hC
  have n1 := G.n1
  have e1 : W.n = W.lists.length := rfl
  have r0 := G.row_at (i := 0) (by omega)
  have hu := hr.units
  refine s_if (ET.go (B := B) (b := false || false) L.tk (et_w (ew_or (et_val (k := false) ?_) fun _ => ew_or1 (k := false) ?_)) fun H2 g2 => ⟨(fun z => by cases z), fun _ => ss_nil (q H2 g2)⟩)
  · refine EV.to (d := .bool (keepsB W [(0, 9)])) ?_ (by rw [keeps_far G.ok G.m3])
    exact evp_keeps rfl rfl rfl rfl rfl Fo (hr.mono (by decide)) rfl T.ke L.wa G.ok G.sm (ex_var 7) (ev_tup (ea_cons (ev_tup (ea_cons ev_int (ea_cons ev_int ea_nil)) (by show 2 ≤ sizeLine; decide)) ea_nil) (by show 1 ≤ sizeLine; decide)) (by show 1 ≤ 1000; decide)
  · cases hr0 : W.row 0 with
    | nil =>
      rw [hr0] at r0
      exact ET.to (et_and (k := false) (k' := false) (ET.to (et_cmp (co_ne hu ((pl_tup (n := 0) fun d hd => by cases hd).shaped (by decide)) ((pl_tup (n := 0) fun d hd => by cases hd).shaped (by decide))) (ev_ix (ev_var 4 (hd := L.il)) (.inl rfl) ev_int (k := 0) rfl r0) (ev_tup ea_nil (by show 0 ≤ sizeLine; decide))) (by rfl)) fun z => by cases z) rfl
    | cons r row =>
      rw [hr0] at r0
      have e0 : ∀ {pos1 pos2 pos3 pos4 pos5 : Pos} {j1 j2 : Nat}, EV B (lawC P w K mg base f c A outer s0 H0 E0') (.Subscript (.Subscript (.Name "_law_lists" pos1) (.Constant (.int 0) j1 pos2) pos3) (.Constant (.int 0) j2 pos4) pos5) (zW a D W vl va vr p l k) H (.int r) := fun {_ _ _ _ _ _ _} =>
        ev_ix (ev_ix (ev_var 4 (hd := L.il)) (.inl rfl) ev_int (k := 0) rfl r0) (.inr rfl) ev_int (k := 0) rfl rfl
      refine ET.to (et_and (k := _) (k' := false) (et_cmp (co_ne hu ((pl_tup (n := 0) pl_iD).shaped (by decide)) ((pl_tup (n := 0) fun d hd => by cases hd).shaped (by decide))) (ev_ix (ev_var 4 (hd := L.il)) (.inl rfl) ev_int (k := 0) rfl r0) (ev_tup ea_nil (by show 0 ≤ sizeLine; decide))) fun _ => et_val (EV.to (d := .bool (keepsB W [(0, r), (0, r)])) ?_ (by rw [keeps_twice]))) (by rw [Bool.and_false])
      exact evp_keeps rfl rfl rfl rfl rfl Fo (hr.mono (by decide)) rfl T.ke L.wa G.ok G.sm (ex_var 7) (ev_tup (ea_cons (ev_tup (ea_cons ev_int (ea_cons e0 ea_nil)) (by show 2 ≤ sizeLine; decide)) (ea_cons (ev_tup (ea_cons ev_int (ea_cons e0 ea_nil)) (by show 2 ≤ sizeLine; decide)) ea_nil)) (by show 2 ≤ sizeLine; decide)) (by show 2 ≤ 1000; decide)
end
end K22
end
section
set_option Elab.async false
set_option linter.all false
set_option maxRecDepth 100000
set_option maxHeartbeats 4000000
/-! K22TopG: law's lambdas: made, handed to _law_told, called there. -/
namespace K22
open PySem PySem.Spec PyProof.Rows L2 LamX NdefX Pm
/-- x is True, x a bool or a text -/
theorem op_isB {X : Cx} : OpR X (compareOp .Is) (fun x y H Q => ∃ b, y = .bl b ∧ ((∃ a, x = .bl a) ∨ ∃ t, x = .str t) ∧ Q (.bl (decide (x = .bl b))) H) := by
  intro pins s σ H x y v u Q I rx ry h
  obtain ⟨b, rfl, h, q⟩ := h
  cases (show u = Value.bool b from ry)
  rcases h with ⟨a, rfl⟩ | ⟨t, rfl⟩
  · cases (show v = Value.bool a from rx)
    by_cases e : a = b
    · subst e
      exact wpAny_is_self rfl ⟨.bl true, H, I, rfl, by simpa using q⟩
    · exact wpAny_is_other rfl (fun z => e (Value.bool.inj z)) ⟨.bl false, H, I, rfl, by simpa [e] using q⟩
  · obtain ⟨tk, rfl⟩ := rx
    exact wpAny_is_other rfl (fun z => by cases z) ⟨.bl false, H, I, rfl, by simpa using q⟩
/-- the lambda's contexts -/
def LamF (X : Cx) (E : XK) (scope : Scope) (f c' : Addr) (k : Nat) : Fam := fun C' => ∃ (A : Around) (outer : List Env) (s : Shared) (H : Hp), Room k C'.A ∧ C' = lamCx X A outer s H E scope f c'
theorem passLam {X : Cx} {A : Around} {outer : List Env} {s : Shared} {H : Hp} {E : XK} {scope : Scope} {f c' : Addr} : Passes (L2.CX X.prog X.w) (lamCx X A outer s H E scope f c') E :=
  passes_call (takes_of rfl rfl rfl rfl) fun _ _ _ _ z => z
/-- what is kept of a lambda's object -/
abbrev LamAt (C : Cx) (H : Hp) (f c' : Addr) (params : Arguments) (body : Expr) (scope : Scope) : Prop := H f = some (LamO f (C.env.qual ++ "<lambda>") params body scope (cloFrom C.env.cells scope.names []) c') ∧ H c' = some (CodeO c' (C.env.qual ++ "<lambda>"))
section
variable {B : Amb} {C : Cx} {a : Expr} {σ : L2.St} {H : Hp} {pos p1 : Pos} {params : Arguments} {body : Expr} {scope : Scope}
theorem LamAt.mono {H' : Hp} {f c' : Addr} (g : Gr B H H') (h : LamAt C H f c' params body scope) : LamAt C H' f c' params body scope := ⟨g.keep _ _ h.1 lamO_ne, g.keep _ _ h.2 codeO_ne⟩
/-- what is asked of the maker's table -/
structure LamT (B : Amb) (C : Cx) (c P : Addr) : Prop where
  tb : LamX.TabB C.base C.mg c P
  code : C.env.code = .ref c
  hm : (P, C.env.qual ++ "<lambda>") ∈ B.TL
  hu : ∀ p ∈ B.TL, p.1 = P → p.2 = C.env.qual ++ "<lambda>"
/-- lambda: .. -/
theorem t_lam {c P : Addr} {Q : VK} (T : LamT B C c P) (tk : TK B H) (L : LamS C.env.scope scope) (hdef : defaultsOf params C.env = ([], []))
    (q : ∀ f c' H1, Gr B H H1 → H f = none → LamAt C H1 f c' params body scope → Q (.ref f) H1) : tS C (.Lambda params body scope pos) σ H Q := fun pins s I =>
  lam_make3 I T.tb T.code T.hm T.hu tk.tl hdef (L.has I.ok) fun f c' H1 s' I1 eN eP dn T1 nf hf hc =>
    ⟨.ref f, H1, I1, rfl, q f c' H1 ⟨eN, ⟨fun P' hP' => by
      obtain ⟨ps, h, r⟩ := tk.tg P' hP'
      exact ⟨ps, eP _ _ h fun z => tk.dj P' hP' _ T.hm z.symm, r⟩, T1, fun x hx z => tk.xs x hx (dn x z), tk.dj⟩, dn⟩ nf ⟨hf, hc⟩⟩
/-- told(a), a one of the lambdas, in the maker's own context -/
theorem t_told {k : Nat} {g cBP cBS c1 c2 c3 c6 c7 c8 c9 : Addr} {Q : VK} (e : Errs C.K C.mg cBP cBS c1 c2 c3 c6 c7 c8 c9) (Tf : TellF C.K C.mg g) (hg : Gl C "_law_told") (hr : Room (k + 2) C.A) (L : LamS C.env.scope scope)
    (hbind : ∀ (q : Str) (cl : List (Str × Addr)) (pm cv ctv : Value), bindArgs (PySem.W.kla_fn "<lambda>" q params body scope cl pm cv ctv) ⟨[], []⟩ = pure [])
    (h : tS C a σ H fun v H1 => ∃ f c', v = .ref f ∧ LamAt C H1 f c' params body scope ∧ TTold3 cBP cBS (fun E H' Q' => FE (LamF C E scope f c' k) body σ H' Q') H1 Q)
    (hs : starEach [a] C.env = (false, eval a C.env) :: starEach [] C.env := by rfl) : tS C (.Call (.Name "_law_told" p1) [a] [] pos) σ H Q := fun pins s I => by
  refine wpAny_Call_Name_kw (ld_glob I hg Tf.g ?_ (by decide))
  have h' : tCons (tS C a) tNil σ H fun vs H1 => ∃ f c', vs = [.ref f] ∧ LamAt C H1 f c' params body scope ∧ TTold3 cBP cBS (fun E H' Q' => FE (LamF C E scope f c' k) body σ H' Q') H1 Q := fun pins s I =>
    wpAny_mono (h pins s I) (fun u s1 ⟨v, H1, I1, r1, f, c', e, q⟩ => ⟨v, H1, I1, r1, f, c', by rw [e], q⟩) fun _ _ z => z
  refine PySem.W.callWith_K (h₀ := C.base) I.ok.mod.kin Tf.k (thn ((pa_cons pe_S pa_nil hs).run pos pins s σ H _ I h') fun us s1 ⟨vs, H1, I1, r, f, c', ev, hl, q⟩ => ⟨I1.kIn, ?_⟩) hs (by rfl)
  subst ev
  cases r with
  | cons r0 r1 =>
    cases r1
    obtain rfl : _ = Value.ref f := r0
    exact told_at (X := C) (Y := C) (tb := fun E => FE (LamF C E scope f c' k) body) e Tf ⟨rfl, rfl, rfl, rfl, rfl, rfl, rfl⟩ I1 I1 L hr (fun pm ctv => hbind _ _ _ _ _) (fun A outer s H E hr => pe_F ⟨A, outer, s, H, hr, rfl⟩) hl.1 hl.2 q
end
end K22
end
section
set_option Elab.async false
set_option linter.all false
set_option maxRecDepth 100000
set_option maxHeartbeats 800000
/-! K22TopH: law's body: the guesses. -/
namespace K22
open PySem PySem.Spec PyProof.Rows L2 LamX NdefX Pm
/-- the guesses' statements -/
abbrev gueS (i : Nat) : Stmt := (forBody (lawS 13)).getD i (.Pass ⟨0, 0, 0, 0⟩)
/-- of a tuple of list comprehensions in a tuple -/
def tupOf : Expr → Expr
  | .Call _ [e] _ _ => e
  | _ => .Name "" ⟨0, 0, 0, 0⟩
def lcSc : Expr → Scope
  | .ListComp _ _ sc _ => sc
  | _ => default
section
variable {P : Program} {w : World} {K : PySem.W.Frag} {mg : Str → Option Value} {base : Heap} {f c : Addr} {A : Around} {outer : List Env} {s0 : Shared} {H0 : Hp} {E0' : XK} {C : Cx} {e : Expr} {B : Amb} {H : Hp} {a D : Addr} {Dn : Ends} {W : Wt} {vl va vr : V} {p : Addr} {fR : Addr} {fdR : FuncData}
variable {Cw cBS cBP PS PLa PLk PW PWo PKe PCh PL gT c1 c2 c3 c6 c7 c8 c9 : Addr}
/-- law's slots in the guesses -/
abbrev zG (a D : Addr) (W : Wt) (vl va vr : V) (p : Addr) (x8 x9 x10 x11 x12 x13 x14 x15 x16 x17 : Option V) : L2.St := zW a D W vl va vr p [x8, x9, x10, x11, x12, x13, x14, x15, x16, x17] 4
/-- tuple([k for k in range(m) if roll(dice, 2) == 0]) -/
theorem t_pick {x8 x9 x10 x11 x12 x13 x14 x15 x16 x17 : Option V} {Q : VK} {iter : Expr} {p1 p2 p3 p4 p5 p6 p7 p8 p9 p10 p11 : Pos} {j1 j2 m : Nat} {sc : Scope} (hC : C = lawC P w K mg base f c A outer s0 H0 E0') (Z : Rl K mg fR fdR) (hr : Room 8 C.A) (tp : mg "tuple" = none) (tk : TK B H) (hX : D ∈ B.X) (dc : DiceAt H D) (hm : m ≤ 3)
    (hi : EI B C (.Name "_law_k" p3) iter (zG a D W vl va vr p x8 x9 x10 x11 x12 x13 x14 x15 x16 x17) H (rangeD m)) (hs : ∀ x, foldedSetIterable iter C.env x = pure x) (hsc : sc = ⟨.function, [(".0", .local), ("_law_k", .local), ("_law_roll", .globalImplicit), ("_law_dice_here", .free)], false, false, []⟩)
    (q : ∀ v H' (row : List Int), Gw B [D] H H' → DiceAt H' D → row.Sublist (places m) → Is B.X H' v (rowD row) → Q v H') :
    tS C (.Call (.Name "tuple" p1) [.ListComp (.Name "_law_k" p2) [⟨.Name "_law_k" p3, iter, [.Compare (.Call (.Name "_law_roll" p4) [.Name "_law_dice_here" p5, .Constant (.int 2) j1 p6] [] p7) [.Eq] [.Constant (.int 0) j2 p8] p9], 0⟩] sc p10] [] p11) (zG a D W vl va vr p x8 x9 x10 x11 x12 x13 x14 x15 x16 x17) H Q := by
  subst hC hsc
  refine t_tupleOf (B := B) rfl tp (t_lcX (B := B) (S := [D]) (Inv := fun H => DiceAt H D) (R := fun ds os => ∃ row : List Int, os = iD row ∧ row.Sublist (unI ds)) (own := [("_law_k", 20)]) (pat := .nm 20) (xs := rangeD m)
    tk hi (one_in hX) (by rw [rangeD_len]; omega) rfl scLaw.nd (blk_by (N := nLaw) (sc := defScope sLaw) (by decide +kernel)) (fun B' => eg_bn scLaw.nd) (fun _ _ => True.intro) lf_range ⟨[], rfl, .slnil⟩ dc (fun H4 H5 g d => d.mono g) (diceU dc) ?_ ?_ (hs := hs))
  · rintro L2 hL2 hL2X i2 dd hdd o2 ⟨row, rfl, hrow⟩ H5 σ3 w5 d5 ⟨u2, rfl, hu2⟩
    obtain ⟨hin2, rfl⟩ := rangeD_at hdd
    rw [hu2.int_eq]
    have hXpp : D ∈ (B.plus [L2]).X := List.mem_append_right _ hX
    refine ⟨rfl, turn_if fun Q3 q3 C3 hC3 => ?_⟩
    obtain ⟨s3, H3', cc3, cl3, fp3, rfl⟩ := hC3
    refine tt_rollE (t_roll rfl rfl Z (k := 0) (hr.mono (by decide)) rfl w5.tk hXpp d5 (m := 2) (by decide) (by decide) (ex_var 1) ev_int fun H6 r w6 d6 r0 r1 => ⟨r, rfl, ?_⟩)
    by_cases hb : r = 0
    · rw [decide_eq_true hb]
      refine (q3 H6 w6 d6).2 fun Q4 k4 C5 hC5 => ?_
      obtain ⟨s5, H5', cc5, cl5, fp5, rfl⟩ := hC5
      refine EV.go (B := B.plus [L2]) (d := .int (i2 : Int)) w6.tk (ex_var 20).int fun v7 H7 g7 hv7 => k4 v7 (.int (i2 : Int)) H7 (w6.trans g7.w) (d6.mono g7) hv7 ⟨row ++ [(i2 : Int)], ?_, ?_⟩
      · unfold iD; rw [List.map_append]; rfl
      · rw [unI_take hdd]
        exact hrow.append (.refl _)
    · rw [decide_eq_false hb]
      refine (q3 H6 w6 d6).1 ⟨row, rfl, ?_⟩
      rw [unI_take hdd]
      exact hrow.trans (List.sublist_append_left _ _)
  · rintro v5 H5 ds w5 d5 ⟨row, rfl, hrow⟩ h5
    rw [unI_range] at hrow
    exact ⟨iD row, w5.tk, h5, fun v6 H6 g6 h6 => q v6 H6 row (w5.trans g6.w) (d5.mono g6) hrow h6⟩
theorem sides_sub {W : Wt} {A1 R1 : List Int} (h1 : A1.Sublist (places W.n)) (h2 : R1.Sublist (places W.m)) : Sides W A1 R1 :=
  ⟨(nodup_places _).sublist h1, (nodup_places _).sublist h2, fun a ha => mem_places.mp (h1.mem ha), fun r hr => mem_places.mp (h2.mem hr)⟩
/-- guess = (tuple([..]), tuple([..])) -/
theorem law_g0 {x8 x9 x10 x11 x12 x13 x14 x15 x16 x17 : Option V} (hC : C = lawC P w K mg base f c A outer s0 H0 E0') (Z : Rl K mg fR fdR) (hr : Room 8 C.A) (rg : mg "range" = none) (tp : mg "tuple" = none) (G : WG W) (tk : TK B H) (hX : D ∈ B.X) (dc : DiceAt H D)
    (q : ∀ v H' A1 R1, Gw B [D] H H' → DiceAt H' D → Sides W A1 R1 → Is B.X H' v (cutD A1 R1) → Dn.nx (zG a D W vl va vr p x8 x9 x10 x11 x12 x13 x14 x15 x16 (some v)) H') : sS C (gueS 0) Dn (zG a D W vl va vr p x8 x9 x10 x11 x12 x13 x14 x15 x16 x17) H := by
  have hC' := hC
  subst hC
  have n3 : W.n ≤ 3 := G.n3
  have m3 : W.m ≤ 3 := G.m3
  refine s_set 17 scLaw.nd (of_pe (pe_tup (pa_cons pe_S (pa_cons pe_S pa_nil))) (t_pick hC' Z hr tp tk hX dc n3 (ei_range rfl rg (ex_var 2).int (by omega)) (fun _ => rfl) rfl fun v1 H1 A1 w1 d1 s1 i1 => ?_))
  refine t_pick hC' Z hr tp w1.tk hX d1 m3 (ei_range rfl rg (ex_var 3).int (by omega)) (fun _ => rfl) rfl fun v2 H2 R1 w2 d2 s2 i2 => ⟨by show 2 ≤ sizeLine; decide, fun t ht => ?_⟩
  have g3 := Gr.new (o := .tup [v1, v2]) w2.tk ht
  have j1 := (w2.is (one_in hX) i1).mono g3
  have j2 := i2.mono g3
  refine q _ _ A1 R1 ((w1.trans w2).trans g3.w) (d2.mono g3) (sides_sub s1 s2) (.tup upd_same (w2.tk.notX ht) rfl fun n v d h1 h2 => ?_)
  match n, h1, h2 with
  | 0, h1, h2 => cases h1; cases h2; exact j1
  | 1, h1, h2 => cases h1; cases h2; exact j2
  | n + 2, h1, h2 => simp at h1
/-- check_cut(wants, e): in a lambda of law's -/
theorem t_checkL {C1 : Cx} {e1 e2 : Expr} {p1 pos : Pos} {σ : L2.St} {A1 R1 : List Int} {E : XK} {Q : VK} (hK : C1.K = K) (hmg : C1.mg = mg) (hbs : C1.base = base) (hP : C1.prog = P) (hw : C1.w = w) (Fc : FO P w K mg base (L2.CX P w) 3 "check_cut" ["wants", "cut"] (spCheck Cw PCh PLk cBP)) (hr : Room 3 C1.A) (hg : Gl C1 "check_cut") (hx : Passes (L2.CX C1.prog C1.w) C1 E) (tk : TK B H) (hT : PCh ∈ B.TG) (hT2 : PLk ∈ B.TG) (wa : WantAt B.X Cw H p W) (ok : W.Ok) (sm : Small W)
    (h1 : EX B C1 e1 σ H (.ref p)) (h2 : EV B C1 e2 σ H (cutD A1 R1)) (l1 : A1.length ≤ 100) (l2 : R1.length ≤ 100) (k1 : cutOk W A1 R1 = true → ∀ H', Gr B H H' → Q (.bl true) H') (k2 : cutOk W A1 R1 = false → ∀ H', Gr B H H' → E (.ref cBP) none H')
    (s1 : starEach [e1, e2] C1.env = (false, eval e1 C1.env) :: starEach [e2] C1.env := by rfl) (s2 : starEach [e2] C1.env = (false, eval e2 C1.env) :: starEach [] C1.env := by rfl)
    (hpl : (backTo pos (starEach [e2] C1.env)).any (·.1) = false := by rfl) : tS C1 (.Call (.Name "check_cut" p1) [e1, e2] [] pos) σ H Q := by
  subst hK hmg hbs hP hw
  refine t_fo Fc hr hx hg tk (eap_x h1 (eap_d h2 eap_nil s2) s1) (fun H2 vs g2 hvs => ?_) (by decide) s1 hpl
  obtain ⟨ws1, rfl, v2, ws2, rfl, i2, rfl⟩ := hvs
  exact ⟨B, p, v2, W, A1, R1, rfl, g2.tk, hT, hT2, wa.mono g2, ok, sm, i2, l1, l2, fun z H' g' => k1 z H' (g2.trans g'), fun z H' g' => k2 z H' (g2.trans g')⟩
/-- if told(lambda: check_cut(wants, guess)) is True and good != [] or cut_worth(wants, guess) < best: return False -/
theorem law_g1 {x8 x10 x11 x13 x14 x15 x16 : Option V} {vg v17 : V} {b : Int} {A1 R1 : List Int} (hC : C = lawC P w K mg base f c A outer s0 H0 E0') (Er : Errs K mg cBP cBS c1 c2 c3 c6 c7 c8 c9) (Tf : TellF K mg gT) (T' : LamT B C c PL) (Fc : FO P w K mg base (L2.CX P w) 3 "check_cut" ["wants", "cut"] (spCheck Cw PCh PLk cBP)) (Fo : FO P w K mg base CX0 3 "cut_worth" ["wants", "cut"] (spWorth Cw PWo PLk)) (hr : Room 8 C.A) (T : TGs B PS PLa PLk PW PWo PKe PCh) (G : WG W) (L : LD B Cw D W vl va vr p H)
    (ig : Is B.X H vg (.list ((goodLots W).map lotD))) (Bs : Best W b) (sd : Sides W A1 R1) (iv : Is B.X H v17 (cutD A1 R1))
    (q : ∀ H', Gr B H H' → Dn.nx (zG a D W vl va vr p x8 (some (.int b)) x10 x11 (some vg) x13 x14 x15 x16 (some v17)) H') : sS C (gueS 1) Dn (zG a D W vl va vr p x8 (some (.int b)) x10 x11 (some vg) x13 x14 x15 x16 (some v17)) H := by
  subst hC
  have hu := hr.units
  have n3 : W.n ≤ 3 := G.n3
  have m3 : W.m ≤ 3 := G.m3
  have la := len_side sd.na sd.ia
  have lr := len_side sd.nr sd.ir
  have hbest := best_cut G.ok Bs sd
  refine s_if (ET.go (B := B) (b := false || false) L.tk (et_w (ew_or (ET.to (et_and (k := cutOk W A1 R1) (fun H1 g1 Q k1 => ?_) fun _ => et_cmp (co_ne hu (shaped_lots _) shaped_nil) (ev_var 12 (hd := ig)) (ev_lst ea_nil (by show 0 ≤ sizeLine; decide))) ?_) fun _ => ew_or1 (ET.to (et_cmp (co_lt (n := cutWorth W A1 R1)) ?_ (ex_var 9).int) ?_))) fun H2 g2 => ⟨(fun z => by cases z), fun _ => ss_nil (q H2 g2)⟩)
  · refine of_pt (pt_cmpR op_isB pe_S pe_bl (by rfl)) (t_told (k := 3) Er Tf rfl (hr.mono (by decide)) (lamS_by (sc := defScope sLaw) (by decide +kernel)) (fun _ _ _ _ _ => rfl) (t_lam T' g1.tk (lamS_by (sc := defScope sLaw) (by decide +kernel)) rfl fun f' c' H2 g2 nf hl => ⟨f', c', rfl, hl, ?_⟩))
    rintro C' ⟨A', outer', s', H', hrA, rfl⟩
    have g12 := g1.trans g2
    refine t_checkL rfl rfl rfl rfl rfl Fc hrA rfl (passLam (X := lawC P w K mg base f c A outer s0 H0 E0') (A := A') (outer := outer') (s := s') (H := H') (f := f') (c' := c')) g12.tk T.ch T.lk (L.wa.mono g12) G.ok G.sm (ex_var 7) (ev_var 17 (hd := iv.mono g12)) (by omega) (by omega) (fun z H3 g3 => ?_) (fun z H3 g3 => ?_)
    · rw [z] at k1
      exact ⟨true, rfl, .inl ⟨true, rfl⟩, true, rfl, k1 H3 (g2.trans g3)⟩
    · rw [z] at k1
      exact .inl ⟨rfl, true, rfl, .inr ⟨_, rfl⟩, false, rfl, k1 H3 (g2.trans g3)⟩
  · have e : PyData.eqv (.list ((goodLots W).map lotD)) (.list []) = decide (goodLots W = []) := eqv_lists (f := lotD) eqv_lotD (goodLots W) []
    rw [e]
    cases hc : cutOk W A1 R1 with
    | false => rfl
    | true => rw [decide_eq_true (p := goodLots W = []) (cut_good G.ok hc)]; rfl
  · exact evp_worth rfl rfl rfl rfl rfl Fo (hr.mono (by decide)) rfl T.wo T.lk L.wa G.ok G.sm (ex_var 7) (ev_var 17 (hd := iv)) sd
  · rw [decide_eq_false (p := cutWorth W A1 R1 < b) (by omega)]
/-- [[1 for room in lists[k] if room in guess[1]] for k in guess[0]] -/
def oneRows (W : Wt) (R1 ks : List Int) : List (List PyData) := ks.map fun k => (((W.row k.toNat).filter fun r => decide (r ∈ R1)).map fun _ => PyData.int 1)
theorem oneRows_len (W : Wt) (R1 ks : List Int) : ((oneRows W R1 ks).flatten.length : Int) = linked W ks R1 := by
  rw [linked_len]
  congr 1
  unfold oneRows
  induction ks with
  | nil => rfl
  | cons k ks ih => rw [List.map_cons, List.flatten_cons, List.flatMap_cons, List.length_append, List.length_append, ih, List.length_map, List.length_map]
def oOne (R1 : List Int) : PyData → Option PyData
  | .int r => if decide (r ∈ R1) = true then some (.int 1) else none
  | _ => none
theorem oOne_iD (R1 row : List Int) : (iD row).filterMap (oOne R1) = (row.filter fun r => decide (r ∈ R1)).map fun _ => PyData.int 1 :=
  fm_if (enc := PyData.int) (outs := oOne R1) (f := fun _ => .int 1) (p := fun r => decide (r ∈ R1)) (fun r => rfl) row
def cmpR : Stmt → Expr
  | .If (.Compare _ _ [e] _) _ _ _ => e
  | _ => .Name "" ⟨0, 0, 0, 0⟩
abbrev scOnes : Scope := lcSc (tupOf (tupOf (cmpR (gueS 2))))
theorem unI_at {ks : List Int} {i : Nat} {d : PyData} (h : (iD ks)[i]? = some d) : ∃ k, ks[i]? = some k ∧ d = .int k ∧ unI ((iD ks).take (i + 1)) = unI ((iD ks).take i) ++ [k] := by
  unfold iD at h ⊢
  rw [List.getElem?_map] at h
  obtain ⟨k, hk, rfl⟩ := Option.map_eq_some_iff.mp h
  refine ⟨k, hk, rfl, ?_⟩
  rw [← List.map_take, ← List.map_take, take_at hk]
  unfold unI
  rw [List.map_append, List.map_append]
  rfl
theorem ev_ones {x8 x9 x10 x11 x12 x13 x14 x15 x16 : Option V} {v17 : V} {A1 R1 : List Int} (hC : C = lawC P w K mg base f c A outer s0 H0 E0') (G : WG W) (L : LD B Cw D W vl va vr p H) (sd : Sides W A1 R1) (iv : Is B.X H v17 (cutD A1 R1))
    (he : e = tupOf (tupOf (cmpR (gueS 2)))) : EV B C e (zG a D W vl va vr p x8 x9 x10 x11 x12 x13 x14 x15 x16 (some v17)) H (.list ((oneRows W R1 A1).map PyData.list)) := fun H00 g00 Q q => by
  replace L := L.gr g00
  replace iv := iv.mono g00
  clear g00
  revert L iv q
  generalize H00 = H
  intro q L iv
  subst hC he
  have n3 : W.n ≤ 3 := G.n3
  have la := len_side sd.na sd.ia
  refine t_lcX (B := B) (S := []) (Inv := fun _ => True) (R := fun ds os => os = (oneRows W R1 (unI ds)).map PyData.list) (own := [("_law_k", 20)]) (pat := .nm 20) (xs := iD A1) L.tk (ei_tup (ev_ix (ev_var 17 (hd := iv)) (.inr rfl) ev_int (k := 0) rfl rfl)) (fun a ha => nomatch ha) (by rw [iD_len]; omega) rfl scLaw.nd (blk_by (N := nLaw) (sc := defScope sLaw) (by decide +kernel))
    (fun B' => eg_bn scLaw.nd) (fun _ _ => True.intro) (fun d hd => ?_) rfl True.intro (fun _ _ _ _ => True.intro) (fun _ _ _ _ _ => True.intro) ?_ ?_
  · obtain ⟨i, _, rfl⟩ := List.mem_map.mp hd
    exact .int i
  · rintro L2 hL2 hLX i d hd o rfl H3 σ2 w3 _ ⟨u, rfl, hu⟩
    obtain ⟨k, hk, rfl, hstep⟩ := unI_at hd
    obtain ⟨k0, k1⟩ := sd.ia k (List.mem_of_getElem? hk)
    rw [hu.int_eq]
    have il3 : Is (B.plus [L2]).X H3 vl (listsD W.lists) := by
      have := L.il.plus (l := [L2]) fun a ha => by rw [List.mem_singleton.mp ha]; exact hL2
      exact w3.is (fun a ha => nomatch ha) this
    have iv3 : Is (B.plus [L2]).X H3 v17 (cutD A1 R1) := by
      have := iv.plus (l := [L2]) fun a ha => by rw [List.mem_singleton.mp ha]; exact hL2
      exact w3.is (fun a ha => nomatch ha) this
    refine ⟨rfl, turn_all fun Q q2 C' hC' => ?_⟩
    obtain ⟨s', H', cc, cl, fp, rfl⟩ := hC'
    refine EV.go (B := B.plus [L2]) w3.tk (EV.to (ev_lc (own := [("_law_room", 19)]) (pat := .nm 19) (xs := iD (W.row k.toNat)) (outs := oOne R1) (ei_tup (ev_ix (ev_var 4 (hd := il3)) (.inl rfl) (ex_var 20).int (k := k.toNat) (by omega) (G.row_at (by omega))))
      (by rw [iD_len]; have := G.row3 k.toNat; omega) rfl scLaw.nd (blk_as (N := nLaw) (sc := recell scOnes) (by decide +kernel) rfl) (eg_bn scLaw.nd) (fun d hd => True.intro) ?_ ?_) (congrArg PyData.list (oOne_iD R1 (W.row k.toNat)))) fun v4 H4 g4 hv4 => q2 v4 _ H4 g4.w True.intro hv4 ?_
    · intro d hd d' hd'
      obtain ⟨r, _, rfl⟩ := List.mem_map.mp hd
      have hd' : (if decide (r ∈ R1) = true then some (PyData.int 1) else none) = some d' := hd'
      split at hd'
      · cases hd'; exact .int _
      · cases hd'
    · intro d hd H5 σ3 g5 hput
      obtain ⟨r, _, rfl⟩ := List.mem_map.mp hd
      obtain ⟨u5, rfl, hu5⟩ := hput
      rw [hu5.int_eq]
      have iv5 := iv3.mono g5
      refine ⟨rfl, item_if (fun C' hC' => ?_) fun _ C' hC' => ?_⟩
      · obtain ⟨s'', H'', c', cl', fp', rfl⟩ := hC'
        exact et_cmp (co_inI (.inr rfl)) (ex_var 19).int (ev_ix (ev_var 17 (hd := iv5)) (.inr rfl) ev_int (k := 1) rfl rfl)
      · obtain ⟨s'', H'', c', cl', fp', rfl⟩ := hC'
        exact ev_int
    · rw [hstep]
      unfold oneRows
      rw [List.map_append, List.map_append]
      rfl
  · rintro v5 H5 ds w5 _ rfl h5
    rw [unI_iD] at h5
    exact q v5 H5 (Gw.gr0 w5) h5
/-- if wants.linked(guess[0], guess[1]) != len(flat([..])): return False -/
theorem law_g2 {x8 x9 x10 x11 x12 x13 x14 x15 x16 : Option V} {v17 : V} {A1 R1 : List Int} {fLk cLk : Addr} {fdLk : FuncData} (hC : C = lawC P w K mg base f c A outer s0 H0 E0') (X : WTx K mg Cw cBS) (Zl : Lkd K mg base Cw fLk cLk PLk fdLk) (Ff : FO P w K mg base CX0 1 "_law_flat" ["_law_rows"] spFlat) (hr : Room 8 C.A) (T : TGs B PS PLa PLk PW PWo PKe PCh) (G : WG W) (L : LD B Cw D W vl va vr p H) (sd : Sides W A1 R1) (iv : Is B.X H v17 (cutD A1 R1))
    (q : ∀ H', Gr B H H' → Dn.nx (zG a D W vl va vr p x8 x9 x10 x11 x12 x13 x14 x15 x16 (some v17)) H') : sS C (gueS 2) Dn (zG a D W vl va vr p x8 x9 x10 x11 x12 x13 x14 x15 x16 (some v17)) H := by
  have hC' := hC
  subst hC
  have n3 : W.n ≤ 3 := G.n3
  have la := len_side sd.na sd.ia
  have hlk := linked_le G.sm A1 R1
  have hlen := oneRows_len W R1 A1
  refine s_if (ET.go (B := B) (b := false) L.tk (ET.to (et_cmp (co_neI (n := linked W A1 R1) (m := ((oneRows W R1 A1).flatten.length : Int))) ?_ (ev_len rfl X.ln (d := .list (oneRows W R1 A1).flatten) (evp_fo (E := fun _ _ _ => False) Ff (hr.mono (by decide)) pass0 rfl (eap_one (ev_ones hC' G L sd iv rfl)) fun H2 vs Q g2 hvs q2 => ?_) (.inl rfl))) ?_) fun H2 g2 => ⟨(fun z => by cases z), fun _ => ss_nil (q H2 g2)⟩)
  · exact ev_linked (k := 4) rfl rfl rfl X Zl (hr.mono (by decide)) T.lk L.wa G.sm (ex_var 7) (ev_ix (ev_var 17 (hd := iv)) (.inr rfl) ev_int (k := 0) rfl rfl) (.inr rfl) (ev_ix (ev_var 17 (hd := iv)) (.inr rfl) ev_int (k := 1) rfl rfl) (.inr rfl) sd.ia (by omega)
  · obtain ⟨v, rfl, hv⟩ := hvs
    exact ⟨B, v, _, rfl, g2.tk, hv, by omega, fun H' v' g' hv' => q2 v' H' g' hv'⟩
  · rw [hlen, decide_eq_true rfl]; rfl
/-- for turn in range(5): .. -/
theorem law_s13 {x8 x10 x11 x13 x14 x15 : Option V} {vg : V} {b : Int} {fLk cLk : Addr} {fdLk : FuncData} (hC : C = lawC P w K mg base f c A outer s0 H0 E0') (Z : Rl K mg fR fdR) (rg : mg "range" = none) (X : WTx K mg Cw cBS) (Er : Errs K mg cBP cBS c1 c2 c3 c6 c7 c8 c9) (Tf : TellF K mg gT) (T' : LamT B C c PL) (Fc : FO P w K mg base (L2.CX P w) 3 "check_cut" ["wants", "cut"] (spCheck Cw PCh PLk cBP)) (Fo : FO P w K mg base CX0 3 "cut_worth" ["wants", "cut"] (spWorth Cw PWo PLk)) (Zl : Lkd K mg base Cw fLk cLk PLk fdLk) (Ff : FO P w K mg base CX0 1 "_law_flat" ["_law_rows"] spFlat) (hr : Room 8 C.A) (T : TGs B PS PLa PLk PW PWo PKe PCh) (G : WG W) (L : LD B Cw D W vl va vr p H)
    (ig : Is B.X H vg (.list ((goodLots W).map lotD))) (Bs : Best W b)
    (q : ∀ H' o16 o17, Gw B [D] H H' → DiceAt H' D → Dn.nx (zG a D W vl va vr p x8 (some (.int b)) x10 x11 (some vg) x13 x14 x15 o16 o17) H') : sS C (lawS 13) Dn (zG a D W vl va vr p x8 (some (.int b)) x10 x11 (some vg) x13 x14 x15 none none) H := by
  have hC' := hC
  subst hC
  refine s_for (B := B) (xs := rangeD 5) L.tk PassesOwn.never rfl (ei_range rfl rg ev_int (by decide)) fun H1 g1 => ⟨.nm 16, fun i σ' H' => ∃ o16 o17 : Option V, σ' = zG a D W vl va vr p x8 (some (.int b)) x10 x11 (some vg) x13 x14 x15 o16 o17 ∧ Gw B [D] H1 H' ∧ DiceAt H' D, eg_cn scLaw.nd rfl (.inl rfl) (.inl rfl), fun _ _ => True.intro, ⟨none, none, rfl, g1.self.w, L.dc.mono g1⟩, fun i σ' H' _ ⟨_, _, _, w', _⟩ => w'.x (one_in L.dx), ?_, ?_⟩
  · rintro i d σ' H' H3 σ2 hd ⟨o16, o17, rfl, w2, d2⟩ g3 ⟨u, rfl, hu⟩
    have w13 := w2.trans (g3.w (S := [D]))
    have L3 := (L.gr g1).gw w13 (d2.mono g3)
    refine ss_cons (law_g0 hC' Z hr rg X.tp G L3.tk L3.dx L3.dc fun v4 H4 A1 R1 w4 d4 sd iv => ?_)
    have w14 := w13.trans w4
    have L4 := L3.gw w4 d4
    have ig4 := w14.is (one_in L.dx) (ig.mono g1)
    refine ss_cons (law_g1 hC' Er Tf T' Fc Fo hr T G L4 ig4 Bs sd iv fun H5 g5 => ?_)
    have L5 := L4.gr g5
    refine ss_cons (law_g2 hC' X Zl Ff hr T G L5 sd (iv.mono g5) fun H6 g6 => ss_nil ⟨_, _, rfl, (w14.trans g5.w).trans g6.w, (d4.mono g5).mono g6⟩)
  · rintro σ' H' ⟨o16, o17, rfl, w2, d2⟩
    exact q H' o16 o17 (g1.w.trans w2) d2
end
end K22
end
section
set_option Elab.async false
set_option linter.all false
set_option maxRecDepth 100000
set_option maxHeartbeats 800000
/-! K22TopI: law's body: the five bad calls, told. -/
namespace K22
open PySem PySem.Spec PyProof.Rows L2 LamX NdefX Pm
abbrev noArgs : Arguments := ⟨[], [], none, [], [], none, []⟩
abbrev badE (i : Nat) : Expr := (match lawS 15 with | .Assign _ (.List es _) _ => es | _ => []).getD i (.Name "" ⟨0, 0, 0, 0⟩)
def lamBd : Expr → Expr
  | .Tuple [.Lambda _ b _ _, _] _ _ => b
  | _ => .Name "" ⟨0, 0, 0, 0⟩
def lamSc : Expr → Scope
  | .Tuple [.Lambda _ _ sc _, _] _ _ => sc
  | _ => default
/-- the i-th pair of the list of bad calls: its lambda, its word -/
def BadAt (C : Cx) (X : List Addr) (H : Hp) (t : Addr) (s : Str) (i : Nat) : Prop := ∃ f c', H t = some (.tup [.ref f, .str s]) ∧ t ∉ X ∧ LamAt C H f c' noArgs (lamBd (badE i)) (lamSc (badE i))
theorem BadAt.mono {B : Amb} {C : Cx} {H H' : Hp} {t : Addr} {s : Str} {i : Nat} (g : Gr B H H') (h : BadAt C B.X H t s i) : BadAt C B.X H' t s i := by
  obtain ⟨f, c', e, n, l⟩ := h
  exact ⟨f, c', g.keep _ _ e fun ps z => (by cases z), n, l.mono g⟩
section
variable {B : Amb} {C : Cx} {a o i' : Expr} {σ : L2.St} {H : Hp} {pos p1 p2 p3 : Pos} {params : Arguments} {body : Expr} {scope : Scope}
/-- (lambda: .., 'word') -/
theorem t_bad1 {c P : Addr} {Q : VK} {s : Str} {j kk : Nat} (T : LamT B C c P) (tk : TK B H) (L : LamS C.env.scope scope) (hdef : defaultsOf params C.env = ([], []))
    (q : ∀ t f c' H1, Gr B H H1 → H1 t = some (.tup [.ref f, .str s]) → t ∉ B.X → LamAt C H1 f c' params body scope → Q (.ref t) H1)
    (h1 : starEach [.Lambda params body scope p1, .Constant (.str s) j p2] C.env = (false, eval (.Lambda params body scope p1) C.env) :: starEach [.Constant (.str s) j p2] C.env := by rfl) (h2 : starEach [.Constant (.str s) j p2] C.env = (false, eval (.Constant (.str s) j p2) C.env) :: starEach [] C.env := by rfl) : tS C (.Tuple [.Lambda params body scope p1, .Constant (.str s) j p2] kk pos) σ H Q :=
  of_pe (pe_tup (pa_cons pe_S (pa_cons pe_str pa_nil h2) h1)) (t_lam T tk L hdef fun f c' H1 g1 nf hl => ⟨by show 2 ≤ sizeLine; decide, fun t ht => by
    have g2 := Gr.new (o := .tup [.ref f, .str s]) g1.tk ht
    exact q t f c' _ (g1.trans g2) upd_same (g1.tk.notX ht) (hl.mono g2)⟩)
/-- t[n] of a known tuple -/
theorem ex_tix {t : Addr} {xs : List V} {w : V} {n : Int} (k : Nat) (ht : H t = some (.tup xs)) (ho : EX B C o σ H (.ref t)) (hi : EV B C i' σ H (.int n)) (hk : n = (k : Int) := by rfl) (hx : xs[k]? = some w := by rfl) (hs : PlainIx i' := by exact fun _ _ => rfl) : EX B C (.Subscript o i' pos) σ H w := fun H1 g Q q =>
  of_pe (pe_ix ix_tup pe_S pe_S hs) (ho H1 g _ fun v H2 g2 hv => hi H2 (g.trans g2) _ fun u H3 g3 hu => by
    subst hv
    rw [hu.int_eq]
    exact ⟨t, xs, n, w, rfl, rfl, .inl (.inl ((g.trans (g2.trans g3)).keep _ _ ht fun ps z => by cases z)), atI_of hk hx, q w H3 (g2.trans g3) rfl⟩)
/-- xs[1:] -/
theorem ev_tail {ds : List PyData} {j : Nat} {p4 p5 : Pos} (ho : EV B C o σ H (.list ds)) : EV B C (.Subscript o (.Slice (some (.Constant (.int 1) j p4)) none none p5) pos) σ H (.list (ds.drop 1)) := fun H1 g Q q =>
  of_pe (pe_slice sl_list pe_S (po_some pe_int) po_none) (ho H1 g _ fun v H2 g2 hv => by
    obtain ⟨l1, xs, rfl, e1, hx1, hi1⟩ := hv.list_at
    refine ⟨1, rfl, l1, xs, rfl, .inl (.inl e1), fun p1 new1 => ?_⟩
    have ec : cutV xs (some 1) none = xs.drop 1 := by
      unfold cutV
      rw [show (some (1 : Int)) = some ((1 : Nat) : Int) from rfl, HT.sIx_nat, HT.sIx_none]
      cases xs with
      | nil => rfl
      | cons x xs =>
        have : min 1 (x :: xs).length = 1 := by rw [List.length_cons]; omega
        rw [this, List.drop_one, List.tail_cons]
        exact List.take_of_length_le (by rw [List.length_cons]; omega)
    rw [ec]
    have g3 := Gr.new (o := .lst (xs.drop 1)) g2.tk new1
    have hi3 : Iss B.X (upd H2 p1 (.lst (xs.drop 1))) (xs.drop 1) (ds.drop 1) := by
      have h := (hi1.part 1 xs.length).mono g3
      rw [List.take_of_length_le (by rw [List.length_drop]; omega), List.take_of_length_le (by rw [List.length_drop, hi1.1]; omega)] at h
      exact h
    exact q _ _ (g2.trans g3) (.lst upd_same (g2.tk.notX new1) hi3.1 hi3.2))
/-- the contexts of a block of X entered while X's own facts hold -/
def BlkE (X : Cx) (pins : List (Addr × Obj)) (σ : L2.St) (scope : Scope) : Fam := fun C' => ∃ (s : Shared) (H : Hp) (cc : Addr) (cl : List (Str × Addr)) (fp : List Addr), EntryF X pins σ s H fp ∧ C' = X.blk s H scope (compEnvC scope cl cc X.env) fp
/-- told(a), a one of the lambdas, in a block of the maker's context -/
theorem t_toldB {C' : Cx} {pins : List (Addr × Obj)} {k : Nat} {g cBP cBS c1 c2 c3 c6 c7 c8 c9 : Addr} {Q : VK} {scope' : Scope} {σ' : L2.St} (hF : BlkE C pins σ scope' C') (e : Errs C.K C.mg cBP cBS c1 c2 c3 c6 c7 c8 c9) (Tf : TellF C.K C.mg g) (hg : Gl C' "_law_told") (hr : Room (k + 2) C.A) (L : LamS C.env.scope scope)
    (hbind : ∀ (q : Str) (cl : List (Str × Addr)) (pm cv ctv : Value), bindArgs (PySem.W.kla_fn "<lambda>" q params body scope cl pm cv ctv) ⟨[], []⟩ = pure [])
    (h : tS C' a σ' H fun v H1 => ∃ f c', v = .ref f ∧ LamAt C H1 f c' params body scope ∧ TTold3 cBP cBS (fun E H' Q' => FE (LamF C E scope f c' k) body σ H' Q') H1 Q)
    (hs : starEach [a] C'.env = (false, eval a C'.env) :: starEach [] C'.env := by rfl) : tS C' (.Call (.Name "_law_told" p1) [a] [] pos) σ' H Q := fun pinsY s I => by
  obtain ⟨sE, HE, cc, cl, fp, ent, rfl⟩ := hF
  refine wpAny_Call_Name_kw (ld_glob I hg Tf.g ?_ (by decide))
  have h' : tCons (tS (C.blk sE HE scope' (compEnvC scope' cl cc C.env) fp) a) tNil σ' H fun vs H1 => ∃ f c', vs = [.ref f] ∧ LamAt C H1 f c' params body scope ∧ TTold3 cBP cBS (fun E H' Q' => FE (LamF C E scope f c' k) body σ H' Q') H1 Q := fun pins s I =>
    wpAny_mono (h pins s I) (fun u s1 ⟨v, H1, I1, r1, f, c', e, q⟩ => ⟨v, H1, I1, r1, f, c', by rw [e], q⟩) fun _ _ z => z
  refine PySem.W.callWith_K (h₀ := C.base) I.ok.mod.kin Tf.k (thn ((pa_cons pe_S pa_nil hs).run pos pinsY s σ' H _ I h') fun us s1 ⟨vs, H1, I1, r, f, c', ev, hl, q⟩ => ⟨I1.kIn, ?_⟩) hs (by rfl)
  subst ev
  cases r with
  | cons r0 r1 =>
    cases r1
    obtain rfl : _ = Value.ref f := r0
    have I0 : Inv C pins σ H1 s1 := ent.1.call' (ch := fp) I1.os I1.base I1.hok I1.bare fun b hb => ⟨(ent.2 b hb).1.2.2.2.1, (ent.2 b hb).1.2.1, (ent.2 b hb).1.2.2.2.2.1, (ent.2 b hb).1.2.2.2.2.2⟩
    exact told_at (X := C) (Y := C.blk sE HE scope' (compEnvC scope' cl cc C.env) fp) (tb := fun E => FE (LamF C E scope f c' k) body) e Tf ⟨rfl, rfl, rfl, rfl, rfl, rfl, rfl⟩ I1 I0 L hr (fun pm ctv => hbind _ _ _ _ _) (fun A outer s H E hr => pe_F ⟨A, outer, s, H, hr, rfl⟩) hl.1 hl.2 q
end
section
variable {P : Program} {w : World} {K : PySem.W.Frag} {mg : Str → Option Value} {base : Heap} {f c : Addr} {A : Around} {outer : List Env} {s0 : Shared} {H0 : Hp} {E0' : XK} {C : Cx} {e : Expr} {B : Amb} {H : Hp} {a D : Addr} {Dn : Ends} {W : Wt} {vl va vr : V} {p : Addr} {fR : Addr} {fdR : FuncData}
variable {Cw cBS cBP PS PLa PLk PW PWo PKe PCh PL gT c1 c2 c3 c6 c7 c8 c9 : Addr}
/-- law's slots behind the guesses -/
abbrev zH (a D : Addr) (W : Wt) (vl va vr : V) (p : Addr) (x8 x9 x10 x11 x12 x13 x14 x15 x16 x17 x18 : Option V) : L2.St := zW a D W vl va vr p [x8, x9, x10, x11, x12, x13, x14, x15, x16, x17, x18] 3
/-- the list of bad calls -/
structure BadL (C : Cx) (X : List Addr) (H : Hp) (lb t0 t1 t2 t3 t4 : Addr) : Prop where
  l : H lb = some (.lst [.ref t0, .ref t1, .ref t2, .ref t3, .ref t4])
  b0 : BadAt C X H t0 "paper" 0
  b1 : BadAt C X H t1 "paper" 1
  b2 : BadAt C X H t2 "size" 2
  b3 : BadAt C X H t3 "size" 3
  b4 : BadAt C X H t4 "size" 4
theorem BadL.mono {H' : Hp} {lb t0 t1 t2 t3 t4 : Addr} (g : Gr B H H') (h : BadL C B.X H lb t0 t1 t2 t3 t4) : BadL C B.X H' lb t0 t1 t2 t3 t4 :=
  ⟨g.keep _ _ h.l fun ps z => (by cases z), h.b0.mono g, h.b1.mono g, h.b2.mono g, h.b3.mono g, h.b4.mono g⟩
/-- bad = [(lambda: .., 'paper'), ..] -/
theorem law_s15 {x8 x9 x10 x11 x12 x13 x14 x15 x16 x17 : Option V} (hC : C = lawC P w K mg base f c A outer s0 H0 E0') (T' : LamT B C c PL) (tk : TK B H)
    (q : ∀ H' lb t0 t1 t2 t3 t4, Gr B H H' → BadL C B.X H' lb t0 t1 t2 t3 t4 → Dn.nx (zH a D W vl va vr p x8 x9 x10 x11 x12 x13 x14 x15 x16 x17 (some (.ref lb))) H') : sS C (lawS 15) Dn (zG a D W vl va vr p x8 x9 x10 x11 x12 x13 x14 x15 x16 x17) H := by
  subst hC
  refine s_set 18 scLaw.nd (of_pe (pe_lst (pa_cons pe_S (pa_cons pe_S (pa_cons pe_S (pa_cons pe_S (pa_cons pe_S pa_nil)))))) (t_bad1 T' tk (lamS_by (sc := defScope sLaw) (by decide +kernel)) rfl fun t0 f0 d0 H1 g1 e0 n0 l0 => ?_))
  refine t_bad1 T' g1.tk (lamS_by (sc := defScope sLaw) (by decide +kernel)) rfl fun t1 f1 d1 H2 g2 e1 n1 l1 => ?_
  refine t_bad1 T' g2.tk (lamS_by (sc := defScope sLaw) (by decide +kernel)) rfl fun t2 f2 d2 H3 g3 e2 n2 l2 => ?_
  refine t_bad1 T' g3.tk (lamS_by (sc := defScope sLaw) (by decide +kernel)) rfl fun t3 f3 d3 H4 g4 e3 n3 l3 => ?_
  refine t_bad1 T' g4.tk (lamS_by (sc := defScope sLaw) (by decide +kernel)) rfl fun t4 f4 d4 H5 g5 e4 n4 l4 => ⟨by show 5 ≤ sizeLine; decide, fun lb hlb => ?_⟩
  have g6 := Gr.new (o := .lst [.ref t0, .ref t1, .ref t2, .ref t3, .ref t4]) g5.tk hlb
  have b0 : BadAt (lawC P w K mg base f c A outer s0 H0 E0') B.X H1 t0 "paper" 0 := ⟨f0, d0, e0, n0, l0⟩
  have b1 : BadAt (lawC P w K mg base f c A outer s0 H0 E0') B.X H2 t1 "paper" 1 := ⟨f1, d1, e1, n1, l1⟩
  have b2 : BadAt (lawC P w K mg base f c A outer s0 H0 E0') B.X H3 t2 "size" 2 := ⟨f2, d2, e2, n2, l2⟩
  have b3 : BadAt (lawC P w K mg base f c A outer s0 H0 E0') B.X H4 t3 "size" 3 := ⟨f3, d3, e3, n3, l3⟩
  have b4 : BadAt (lawC P w K mg base f c A outer s0 H0 E0') B.X H5 t4 "size" 4 := ⟨f4, d4, e4, n4, l4⟩
  exact q _ lb t0 t1 t2 t3 t4 (g1.trans (g2.trans (g3.trans (g4.trans (g5.trans g6))))) ⟨upd_same, b0.mono (g2.trans (g3.trans (g4.trans (g5.trans g6)))), b1.mono (g3.trans (g4.trans (g5.trans g6))), b2.mono (g4.trans (g5.trans g6)), b3.mono (g5.trans g6), b4.mono g6⟩
end
end K22
end
section
set_option Elab.async false
set_option linter.all false
set_option maxRecDepth 100000
set_option maxHeartbeats 800000
/-! K22TopJ: law's body: the five bad calls are refused as they should be. -/
namespace K22
open PySem PySem.Spec PyProof.Rows L2 LamX NdefX Pm
section
variable {P : Program} {w : World} {K : PySem.W.Frag} {mg : Str → Option Value} {base : Heap} {f c : Addr} {A : Around} {outer : List Env} {s0 : Shared} {H0 : Hp} {E0' : XK} {C : Cx} {e : Expr} {B : Amb} {H : Hp} {a D : Addr} {Dn : Ends} {W : Wt} {vl va vr : V} {p : Addr} {fR : Addr} {fdR : FuncData}
variable {Cw cBS cBP PS PLa PLk PW PWo PKe PCh PL gT c1 c2 c3 c6 c7 c8 c9 fW cW : Addr} {fdW : FuncData} {x8 x9 x10 x11 x12 x13 x14 x15 x16 x17 x18 : Option V} {f' c' : Addr} {Q : VK}
theorem says0 (hC : C = lawC P w K mg base f c A outer s0 H0 E0') (Fc : FO P w K mg base (L2.CX P w) 3 "check_cut" ["wants", "cut"] (spCheck Cw PCh PLk cBP)) (T : TGs B PS PLa PLk PW PWo PKe PCh) (G : WG W) (L : LD B Cw D W vl va vr p H)
    (q : ∀ H', Gr B H H' → Q (.str "paper") H') : TTold3 cBP cBS (fun E H' Q' => FE (LamF C E (lamSc (badE 0)) f' c' 4) (lamBd (badE 0)) (zH a D W vl va vr p x8 x9 x10 x11 x12 x13 x14 x15 x16 x17 x18) H' Q') H Q := by
  subst hC
  rintro C' ⟨A', outer', s', H', hrA, rfl⟩
  refine t_checkL (A1 := [(W.n : Int)]) (R1 := []) rfl rfl rfl rfl rfl Fc (hrA.mono (by decide)) rfl (passLam (X := lawC P w K mg base f c A outer s0 H0 E0') (A := A') (outer := outer') (s := s') (H := H') (f := f') (c' := c')) L.tk T.ch T.lk L.wa G.ok G.sm (ex_var 7)
    (ev_tup (ea_cons (ev_tup (ea_cons (ex_var 2).int ea_nil) (by show 1 ≤ sizeLine; decide)) (ea_cons (ev_tup ea_nil (by show 0 ≤ sizeLine; decide)) ea_nil)) (by show 2 ≤ sizeLine; decide)) (by show 1 ≤ 100; decide) (by show 0 ≤ 100; decide) (fun z H3 g3 => ?_) (fun z H3 g3 => .inl ⟨rfl, q H3 g3⟩)
  rw [cut_far] at z
  cases z
theorem says1 (hC : C = lawC P w K mg base f c A outer s0 H0 E0') (Fc : FO P w K mg base (L2.CX P w) 3 "check_cut" ["wants", "cut"] (spCheck Cw PCh PLk cBP)) (T : TGs B PS PLa PLk PW PWo PKe PCh) (G : WG W) (L : LD B Cw D W vl va vr p H)
    (q : ∀ H', Gr B H H' → Q (.str "paper") H') : TTold3 cBP cBS (fun E H' Q' => FE (LamF C E (lamSc (badE 1)) f' c' 4) (lamBd (badE 1)) (zH a D W vl va vr p x8 x9 x10 x11 x12 x13 x14 x15 x16 x17 x18) H' Q') H Q := by
  subst hC
  rintro C' ⟨A', outer', s', H', hrA, rfl⟩
  refine t_checkL (A1 := [0, 0]) (R1 := []) rfl rfl rfl rfl rfl Fc (hrA.mono (by decide)) rfl (passLam (X := lawC P w K mg base f c A outer s0 H0 E0') (A := A') (outer := outer') (s := s') (H := H') (f := f') (c' := c')) L.tk T.ch T.lk L.wa G.ok G.sm (ex_var 7)
    (ev_tup (ea_cons (ev_tup (ea_cons ev_int (ea_cons ev_int ea_nil)) (by show 2 ≤ sizeLine; decide)) (ea_cons (ev_tup ea_nil (by show 0 ≤ sizeLine; decide)) ea_nil)) (by show 2 ≤ sizeLine; decide)) (by show 2 ≤ 100; decide) (by show 0 ≤ 100; decide) (fun z H3 g3 => ?_) (fun z H3 g3 => .inl ⟨rfl, q H3 g3⟩)
  rw [cut_twice] at z
  cases z
theorem says2 (hC : C = lawC P w K mg base f c A outer s0 H0 E0') (X : WTx K mg Cw cBS) (M : MkW K mg base Cw fW cW PW fdW) (T : TGs B PS PLa PLk PW PWo PKe PCh) (G : WG W) (hrows : ∀ row ∈ W.lists, row.Pairwise (· < ·) ∧ row.length ≤ 60) (L : LD B Cw D W vl va vr p H)
    (q : ∀ H', Gr B H H' → Q (.str "size") H') : TTold3 cBP cBS (fun E H' Q' => FE (LamF C E (lamSc (badE 2)) f' c' 4) (lamBd (badE 2)) (zH a D W vl va vr p x8 x9 x10 x11 x12 x13 x14 x15 x16 x17 x18) H' Q') H Q := by
  subst hC
  rintro C' ⟨A', outer', s', H', hrA, rfl⟩
  have n3 := G.n3
  have m3 := G.m3
  have hl := G.hl
  refine t_wants (k := 0) (W := ⟨W.lists, W.askers.drop 1, W.rooms⟩) rfl rfl rfl X M hrA rfl (passLam (X := lawC P w K mg base f c A outer s0 H0 E0') (A := A') (outer := outer') (s := s') (H := H') (f := f') (c' := c')) L.tk T.w (ev_var 4 (hd := L.il)) (ev_tail (ev_var 5 (hd := L.ia))) (.inl ?_) (ev_var 6 (hd := L.ir)) (.inl rfl) hrows (by show W.lists.length ≤ 1000; omega) (by show (W.askers.drop 1).length ≤ 1000; rw [List.length_drop]; omega) (by show W.rooms.length ≤ 1000; omega) (fun z => ?_) (fun _ H3 g3 => .inr ⟨rfl, q H3 g3⟩)
  · rw [List.map_drop]
  · rw [wants_few G.hl G.n1] at z
    cases z
theorem says3 (hC : C = lawC P w K mg base f c A outer s0 H0 E0') (X : WTx K mg Cw cBS) (M : MkW K mg base Cw fW cW PW fdW) (T : TGs B PS PLa PLk PW PWo PKe PCh) (G : WG W) (L : LD B Cw D W vl va vr p H)
    (q : ∀ H', Gr B H H' → Q (.str "size") H') : TTold3 cBP cBS (fun E H' Q' => FE (LamF C E (lamSc (badE 3)) f' c' 4) (lamBd (badE 3)) (zH a D W vl va vr p x8 x9 x10 x11 x12 x13 x14 x15 x16 x17 x18) H' Q') H Q := by
  subst hC
  rintro C' ⟨A', outer', s', H', hrA, rfl⟩
  have m3 := G.m3
  refine t_wants (k := 0) (W := ⟨[[(W.rooms.length : Int)]], [(0, 1)], W.rooms⟩) rfl rfl rfl X M hrA rfl (passLam (X := lawC P w K mg base f c A outer s0 H0 E0') (A := A') (outer := outer') (s := s') (H := H') (f := f') (c' := c')) L.tk T.w (ev_lst (ea_cons (ev_tup (ea_cons (ex_var 3).int ea_nil) (by show 1 ≤ sizeLine; decide)) ea_nil) (by show 1 ≤ sizeLine; decide)) (ev_lst (ea_cons (ev_tup (ea_cons ev_int (ea_cons ev_int ea_nil)) (by show 2 ≤ sizeLine; decide)) ea_nil) (by show 1 ≤ sizeLine; decide)) (.inl rfl) (ev_var 6 (hd := L.ir)) (.inl rfl) (fun row hr => ?_) (by show 1 ≤ 1000; decide) (by show 1 ≤ 1000; decide) (by show W.rooms.length ≤ 1000; omega) (fun z => ?_) (fun _ H3 g3 => .inr ⟨rfl, q H3 g3⟩)
  · rw [List.mem_singleton.mp hr]
    exact ⟨List.pairwise_singleton _ _, by show 1 ≤ 60; decide⟩
  · rw [wants_far] at z
    cases z
theorem says4 (hC : C = lawC P w K mg base f c A outer s0 H0 E0') (X : WTx K mg Cw cBS) (M : MkW K mg base Cw fW cW PW fdW) (T : TGs B PS PLa PLk PW PWo PKe PCh) (G : WG W) (L : LD B Cw D W vl va vr p H)
    (q : ∀ H', Gr B H H' → Q (.str "size") H') : TTold3 cBP cBS (fun E H' Q' => FE (LamF C E (lamSc (badE 4)) f' c' 4) (lamBd (badE 4)) (zH a D W vl va vr p x8 x9 x10 x11 x12 x13 x14 x15 x16 x17 x18) H' Q') H Q := by
  subst hC
  rintro C' ⟨A', outer', s', H', hrA, rfl⟩
  have m3 := G.m3
  refine t_wants (k := 0) (W := ⟨[[]], [(2, 1)], W.rooms⟩) rfl rfl rfl X M hrA rfl (passLam (X := lawC P w K mg base f c A outer s0 H0 E0') (A := A') (outer := outer') (s := s') (H := H') (f := f') (c' := c')) L.tk T.w (ev_lst (ea_cons (ev_tup ea_nil (by show 0 ≤ sizeLine; decide)) ea_nil) (by show 1 ≤ sizeLine; decide)) (ev_lst (ea_cons (ev_tup (ea_cons ev_int (ea_cons ev_int ea_nil)) (by show 2 ≤ sizeLine; decide)) ea_nil) (by show 1 ≤ sizeLine; decide)) (.inl rfl) (ev_var 6 (hd := L.ir)) (.inl rfl) (fun row hr => ?_) (by show 1 ≤ 1000; decide) (by show 1 ≤ 1000; decide) (by show W.rooms.length ≤ 1000; omega) (fun z => ?_) (fun _ H3 g3 => .inr ⟨rfl, q H3 g3⟩)
  · rw [List.mem_singleton.mp hr]
    exact ⟨List.Pairwise.nil, by show 0 ≤ 60; decide⟩
  · rw [wants_bad] at z
    cases z
/-- the comprehension over the bad calls -/
abbrev cmpE : Expr := match lawS 16 with | .If (.Compare e _ _ _) _ _ _ => e | _ => .Name "" ⟨0, 0, 0, 0⟩
abbrev cmpSc : Scope := lcSc cmpE
def lcTg : Expr → Expr
  | .ListComp _ [⟨tg, _, _, _⟩] _ _ => tg
  | _ => .Name "" ⟨0, 0, 0, 0⟩
def lcIfs : Expr → List Expr
  | .ListComp _ [⟨_, _, ifs, _⟩] _ _ => ifs
  | _ => []
/-- one turn over the bad calls: what is told is the pair's word -/
theorem turn_bad {pins : List (Addr × Obj)} {σ : L2.St} {t : Addr} {s : Str} {i : Nat} {N : Hp → Prop} {Z : L2.St → Hp → Prop} (hC : C = lawC P w K mg base f c A outer s0 H0 E0') (Er : Errs K mg cBP cBS c1 c2 c3 c6 c7 c8 c9) (Tf : TellF K mg gT) (hr : Room 8 C.A) (tk : TK B H) (hσ : σ.length = 22) (LS : LamS C.env.scope (lamSc (badE i)))
    (hbind : ∀ (q : Str) (cl : List (Str × Addr)) (pm cv ctv : Value), bindArgs (PySem.W.kla_fn "<lambda>" q noArgs (lamBd (badE i)) (lamSc (badE i)) cl pm cv ctv) ⟨[], []⟩ = pure []) (hb : BadAt C B.X H t s i)
    (say : ∀ f' c' H4 (Q : VK), Gr B H H4 → (∀ H5, Gr B H4 H5 → Q (.str s) H5) → TTold3 cBP cBS (fun E H' Q' => FE (LamF C E (lamSc (badE i)) f' c' 4) (lamBd (badE i)) σ H' Q') H4 Q)
    (n : ∀ H3, Gr B H H3 → N H3) : FG (BlkE C pins σ cmpSc) (lcTg cmpE) (.ref t) (wipe σ [21]) H fun σ2 H2 => wipe σ2 [21] = wipe σ [21] ∧ FT (BlkE C pins σ cmpSc) (lcIfs cmpE) σ2 H2 fun b H3 => if b = true then Z σ2 H3 else N H3 := by
  subst hC
  obtain ⟨f', c', et, nt, hl⟩ := hb
  rintro C1 ⟨sE, HE, cc, cl, fp, ent, rfl⟩
  have hw : ∀ v : V, ((σ.set 21 none).set 21 (some v))[21]? = some (some v) := fun v => by
    rw [List.getElem?_set_self]
    rw [List.length_set, hσ]
    decide
  refine of_pg (pg_name (i := 21) scLaw.nd rfl (.inl rfl) (.inr rfl)) ⟨?_, ?_⟩
  · show ((σ.set 21 none).set 21 _).set 21 none = σ.set 21 none
    rw [List.set_set, List.set_set]
  · rintro C2 hC2 pins2 s2 I2
    have hC2' := hC2
    obtain ⟨sE2, HE2, cc2, cl2, fp2, ent2, rfl⟩ := hC2
    refine (pts_one pt_S).run pins2 s2 _ H _ I2 (of_pt (pt_cmpR op_ne pe_S pe_S (nomark _)) (t_toldB (k := 4) hC2' Er Tf rfl (hr.mono (by decide)) LS hbind ((ex_tix (B := B) 0 et (ex_var 21 (hs := hw _)) ev_int).go0 tk fun H4 g4 => ⟨f', c', rfl, hl.mono g4, say f' c' H4 _ g4 fun H5 g5 => ?_⟩)))
    have g45 := g4.trans g5
    refine (ex_tix (B := B) 1 (g45.keep _ _ et fun ps z => by cases z) (ex_var 21 (hs := hw _)) ev_int).go0 g45.tk fun H6 g6 => ⟨rfl, _, rfl, ?_⟩
    rw [decide_eq_true rfl]
    exact iteF (n H6 (g45.trans g6))
/-- [pair for pair in bad if told(pair[0]) != pair[1]] -/
theorem ev_bad {lb t0 t1 t2 t3 t4 : Addr} (hC : C = lawC P w K mg base f c A outer s0 H0 E0') (Er : Errs K mg cBP cBS c1 c2 c3 c6 c7 c8 c9) (Tf : TellF K mg gT) (Fc : FO P w K mg base (L2.CX P w) 3 "check_cut" ["wants", "cut"] (spCheck Cw PCh PLk cBP)) (X : WTx K mg Cw cBS) (M : MkW K mg base Cw fW cW PW fdW) (hr : Room 8 C.A) (T : TGs B PS PLa PLk PW PWo PKe PCh) (G : WG W) (hrows : ∀ row ∈ W.lists, row.Pairwise (· < ·) ∧ row.length ≤ 60) (L : LD B Cw D W vl va vr p H) (Bd : BadL C B.X H lb t0 t1 t2 t3 t4)
    (he : e = cmpE) : EV B C e (zH a D W vl va vr p x8 x9 x10 x11 x12 x13 x14 x15 x16 x17 (some (.ref lb))) H (.list []) := fun H1 g1 Q q pins s I => by
  have hC' := hC
  subst hC he
  refine run_lcF (own := [("_law_pair", 21)]) (g := FG (BlkE (lawC P w K mg base f c A outer s0 H0 E0') pins _ cmpSc) (lcTg cmpE)) (tt := FT (BlkE (lawC P w K mg base f c A outer s0 H0 E0') pins _ cmpSc) (lcIfs cmpE)) (te := FE (BlkE (lawC P w K mg base f c A outer s0 H0 E0') pins _ cmpSc) _) rfl scLaw.nd I (pi_list pe_S) (blk_by (N := nLaw) (sc := defScope sLaw) (by decide +kernel))
    (fun s H c cl fp ent => pg_F ⟨s, H, c, cl, fp, ent, rfl⟩) (fun s H c cl fp ent => pts_F ⟨s, H, c, cl, fp, ent, rfl⟩) (fun s H c cl fp ent => pe_F ⟨s, H, c, cl, fp, ent, rfl⟩) (fun _ => rfl) ?_
  refine (ex_var (B := B) 18).go0 g1.tk fun H2 g2 => ?_
  have g12 := g1.trans g2
  have Bd2 := Bd.mono g12
  have L2 := L.gr g12
  refine ⟨lb, rfl, ⟨_, .inl (.inl Bd2.l)⟩, fun Dl hDl => ?_⟩
  refine lc_list (K := K) (a := lb) (xs := [.ref t0, .ref t1, .ref t2, .ref t3, .ref t4]) (fun i H' => Gr B H2 H' ∧ H' Dl = some (.lst [])) ⟨.new g2.tk hDl, upd_same⟩ (fun i H' _ ⟨g', _⟩ => .inl (.inl (g'.keep _ _ Bd2.l fun ps z => by cases z))) ?_ fun H' ⟨g', e'⟩ => ?_
  · rintro i x H' hx ⟨g', e'⟩
    have Bd' := Bd2.mono g'
    have L' := L2.gr g'
    have n : ∀ H3, Gr B H' H3 → Gr B H2 H3 ∧ H3 Dl = some (.lst []) := fun H3 g3 => ⟨g'.trans g3, g3.keep _ _ e' fun ps z => by cases z⟩
    match i, hx with
    | 0, hx => cases hx; exact turn_bad (pins := pins) (σ := zH a D W vl va vr p x8 x9 x10 x11 x12 x13 x14 x15 x16 x17 (some (.ref lb))) hC' Er Tf hr g'.tk rfl (lamS_by (sc := defScope sLaw) (by decide +kernel)) (fun _ _ _ _ _ => rfl) Bd'.b0 (fun f' c' H4 Q g4 k => says0 hC' Fc T G (L'.gr g4) k) n
    | 1, hx => cases hx; exact turn_bad (pins := pins) (σ := zH a D W vl va vr p x8 x9 x10 x11 x12 x13 x14 x15 x16 x17 (some (.ref lb))) hC' Er Tf hr g'.tk rfl (lamS_by (sc := defScope sLaw) (by decide +kernel)) (fun _ _ _ _ _ => rfl) Bd'.b1 (fun f' c' H4 Q g4 k => says1 hC' Fc T G (L'.gr g4) k) n
    | 2, hx => cases hx; exact turn_bad (pins := pins) (σ := zH a D W vl va vr p x8 x9 x10 x11 x12 x13 x14 x15 x16 x17 (some (.ref lb))) hC' Er Tf hr g'.tk rfl (lamS_by (sc := defScope sLaw) (by decide +kernel)) (fun _ _ _ _ _ => rfl) Bd'.b2 (fun f' c' H4 Q g4 k => says2 hC' X M T G hrows (L'.gr g4) k) n
    | 3, hx => cases hx; exact turn_bad (pins := pins) (σ := zH a D W vl va vr p x8 x9 x10 x11 x12 x13 x14 x15 x16 x17 (some (.ref lb))) hC' Er Tf hr g'.tk rfl (lamS_by (sc := defScope sLaw) (by decide +kernel)) (fun _ _ _ _ _ => rfl) Bd'.b3 (fun f' c' H4 Q g4 k => says3 hC' X M T G (L'.gr g4) k) n
    | 4, hx => cases hx; exact turn_bad (pins := pins) (σ := zH a D W vl va vr p x8 x9 x10 x11 x12 x13 x14 x15 x16 x17 (some (.ref lb))) hC' Er Tf hr g'.tk rfl (lamS_by (sc := defScope sLaw) (by decide +kernel)) (fun _ _ _ _ _ => rfl) Bd'.b4 (fun f' c' H4 Q g4 k => says4 hC' X M T G (L'.gr g4) k) n
    | i + 5, hx => simp at hx
  · exact q _ H' (g2.trans g') (.lst e' (g2.tk.notX hDl) rfl fun n v d h => by simp at h)
/-- if [..] != []: return False -/
theorem law_s16 {lb t0 t1 t2 t3 t4 : Addr} (hC : C = lawC P w K mg base f c A outer s0 H0 E0') (Er : Errs K mg cBP cBS c1 c2 c3 c6 c7 c8 c9) (Tf : TellF K mg gT) (Fc : FO P w K mg base (L2.CX P w) 3 "check_cut" ["wants", "cut"] (spCheck Cw PCh PLk cBP)) (X : WTx K mg Cw cBS) (M : MkW K mg base Cw fW cW PW fdW) (hr : Room 8 C.A) (T : TGs B PS PLa PLk PW PWo PKe PCh) (G : WG W) (hrows : ∀ row ∈ W.lists, row.Pairwise (· < ·) ∧ row.length ≤ 60) (L : LD B Cw D W vl va vr p H) (Bd : BadL C B.X H lb t0 t1 t2 t3 t4)
    (q : ∀ H', Gr B H H' → Dn.nx (zH a D W vl va vr p x8 x9 x10 x11 x12 x13 x14 x15 x16 x17 (some (.ref lb))) H') : sS C (lawS 16) Dn (zH a D W vl va vr p x8 x9 x10 x11 x12 x13 x14 x15 x16 x17 (some (.ref lb))) H := by
  have hC' := hC
  subst hC
  exact s_if (ET.go (B := B) (b := false) L.tk (ET.to (et_cmp (co_ne hr.units shaped_nil shaped_nil) (ev_bad hC' Er Tf Fc X M hr T G hrows L Bd rfl) (ev_lst ea_nil (by show 0 ≤ sizeLine; decide))) (by rfl)) fun H2 g2 => ⟨(fun z => by cases z), fun _ => ss_nil (q H2 g2)⟩)
end
end K22
end
section
set_option Elab.async false
set_option linter.all false
set_option maxRecDepth 100000
set_option maxHeartbeats 2000000
/-! K22TopK: law. -/
namespace K22
open PySem PySem.Spec PyProof.Rows L2 LamX NdefX Pm
/-- the name of law's lambdas -/
abbrev qLam : Str := ("law" ++ ".<locals>.") ++ "<lambda>"
theorem Gr.sql {B : Amb} {K : PySem.W.Frag} {H H' : Hp} {a : Addr} {xs : List V} (g : Gr B H H') (h : SqL K H a xs) : SqL K H' a xs := by
  rcases h with (h | ⟨o, h⟩) | h
  · exact .inl (.inl (g.keep _ _ h fun ps z => by cases z))
  · exact .inl (.inr ⟨o, g.keep _ _ h fun ps z => by cases z⟩)
  · exact .inr h
section
variable {P : Program} {w : World} {K : PySem.W.Frag} {mg : Str → Option Value} {base : Heap} {f c : Addr} {fd : FuncData} {A : Around} {outer : List Env} {s0 : Shared} {H0 : Hp} {E0' : XK} {C : Cx} {B : Amb} {H : Hp} {a D : Addr} {Dn : Ends}
variable {Cw cBS cBP PS PLa PLk PW PWo PKe PCh PL gT c1 c2 c3 c6 c7 c8 c9 : Addr}
/-- one turn of law's loop -/
theorem law_turn (hC : C = lawC P w K mg base f c A outer s0 H0 E0') (Fs : LawF P w K mg base Cw cBS cBP PS PLa PLk PW PWo PKe PCh gT c1 c2 c3 c6 c7 c8 c9) (T' : LamT B C c PL) (ln : mg "len" = none) (hr : Room 8 C.A) (T : TGs B PS PLa PLk PW PWo PKe PCh) (tk : TK B H) (hX : D ∈ B.X) (dc : DiceAt H D)
    (q : ∀ σ' H', Gw B [D] H H' → Dn.nx σ' H') : sSs C lawB Dn (zB a D [] 20) H := by
  obtain ⟨fR, fdR, Z⟩ := Fs.roll
  obtain ⟨fW, cW, fdW, M⟩ := Fs.wants
  obtain ⟨fLk, cLk, fdLk, Zl⟩ := Fs.linked
  have X := Fs.X
  show sSs C [lawS 0, lawS 1, lawS 2, lawS 3, lawS 4, lawS 5, lawS 6, lawS 7, lawS 8, lawS 9, lawS 10, lawS 11, lawS 12, lawS 13, lawS 14, lawS 15, lawS 16] Dn (zB a D [] 20) H
  refine ss_cons (law_s0 hC Z hr tk hX dc fun n m H1 n1 n3 m1 m3 w1 d1 => ?_)
  refine ss_cons (law_s1 hC Z hr Fs.rg X.tp n3 m3 w1.tk hX d1 fun H2 vl rows w2 d2 hlen hsub i2 => ?_)
  refine ss_cons (law_s2 hC Fs.bounds hr n3 m3 w2.tk hX d2 fun H3 va vr pa pr w3 d3 ga la gr lr ia ir => ?_)
  subst hlen lr
  have il3 := w3.is (one_in hX) i2
  obtain ⟨wo, ok, sm, hrows⟩ := wants_ok (W := ⟨rows, pa, pr⟩) la ga gr hsub n3 m3
  have G : WG ⟨rows, pa, pr⟩ := ⟨ok, sm, wo, la, n1, n3, m1, m3, hsub⟩
  have w13 := (w1.trans w2).trans w3
  have hl3 : rows.length ≤ 3 := n3
  have hl3' : pr.length ≤ 3 := m3
  refine ss_cons (law_s3 hC X M hr w3.tk T.w il3 ia ir wo hrows (by show rows.length ≤ 1000; omega) (by show pa.length ≤ 1000; omega) (by show pr.length ≤ 1000; omega) fun H4 p g4 wa => ?_)
  generalize hW : (⟨rows, pa, pr⟩ : Wt) = W at wo ok sm hrows G wa
  have L4 : LD B Cw D W vl va vr p H4 := by
    subst hW
    exact ⟨g4.tk, hX, d3.mono g4, wa, il3.mono g4, ia.mono g4, ir.mono g4⟩
  have hz : zB a D [some (V.int ((rows.length : Nat) : Int)), some (V.int ((pr.length : Nat) : Int)), some vl, some va, some vr, some (.ref p)] 14 = zW a D W vl va vr p [] 14 := by
    subst hW
    rfl
  rw [hz]
  have w14 := w13.trans (g4.w (S := [D]))
  clear hz il3 ia ir i2 hsub ga gr la
  refine ss_cons (law_s4 hC Fs.flat Fs.all Fs.rg hr G L4 fun H5 vo g5 io => ?_)
  have L5 := L4.gr g5
  refine ss_cons (law_s5 hC Fs.kept Fs.mx ln hr G L5 io fun H6 b g6 Bs => ?_)
  have L6 := L5.gr g6
  refine ss_cons (law_s6 hC Fs.most Fs.mcut hr T G L6 fun H7 v1 v2 Pp A1 R1 g7 m1' m2' i1 i2 => ?_)
  have L7 := L6.gr g7
  refine ss_cons (law_s7 hC Fs.kept Fs.worth ln hr T G L7 (io.mono (g6.trans g7)) Bs m1' m2' i1 i2 fun H8 g8 => ?_)
  have L8 := L7.gr g8
  have io8 := io.mono (g6.trans (g7.trans g8))
  refine ss_cons (law_s8 hC Fs.kept hr G L8 io8 fun H9 vg g9 ig => ?_)
  have L9 := L8.gr g9
  refine ss_cons (law_s9 hC Fs.least Fs.short hr T G L9 fun H10 v13 v14 o1 o2 g10 n1' n2' i13 i14 => ?_)
  have L10 := L9.gr g10
  refine ss_cons (law_s10 hC hr G L10.tk n1' n2' (ig.mono g10) i13 i14 fun H11 g11 => ?_)
  have L11 := L10.gr g11
  refine ss_cons (law_s11 hC Fs.check hr T G L11 n2' (i14.mono g11) fun H12 g12 => ?_)
  have L12 := L11.gr g12
  have g912 := g10.trans (g11.trans g12)
  refine ss_cons (law_s12 hC Z Fs.keeps hr T G L12 (io8.mono (g9.trans g912)) (ig.mono g912) fun H13 o15 w13' d13 => ?_)
  have L13 := L12.gw w13' d13
  have ig13 := w13'.is (one_in hX) (ig.mono g912)
  refine ss_cons (law_s13 hC Z Fs.rg X Fs.errs Fs.told T' Fs.check Fs.worth Zl Fs.flat hr T G L13 ig13 Bs fun H14 o16 o17 w14' d14 => ?_)
  have L14 := L13.gw w14' d14
  refine ss_cons (law_s14 hC Fs.keeps hr T G L14 fun H15 g15 => ?_)
  have L15 := L14.gr g15
  refine ss_cons (law_s15 hC T' L15.tk fun H16 lb t0 t1 t2 t3 t4 g16 Bd => ?_)
  have L16 := L15.gr g16
  refine ss_cons (law_s16 hC Fs.errs Fs.told Fs.check X M hr T G hrows L16 Bd fun H17 g17 => ss_nil ?_)
  refine q _ H17 ((w14.trans ?_).trans (w13'.trans (w14'.trans (g15.trans (g16.trans g17)).w)))
  exact (g5.trans (g6.trans (g7.trans (g8.trans (g9.trans g912))))).w
def spLaw (K : PySem.W.Frag) (B0 : Amb) : Sp := fun vs H Q _ => ∃ (a : Addr) (ns : List Int), vs = [.ref a] ∧ SqL K H a (ns.map V.int) ∧ TK B0 H ∧ ∀ H', Q (.bl true) H'
theorem ok_law {B0 : Amb} (F : FunC K "law" "law" sLaw f c fd) (Fs : LawF P w K mg base Cw cBS cBP PS PLa PLk PW PWo PKe PCh gT c1 c2 c3 c6 c7 c8 c9) (TB : LamX.TabB base mg c PL) (hm : B0.TL = [(PL, qLam)]) (ln : mg "len" = none) (T : TGs B0 PS PLa PLk PW PWo PKe PCh) : FnOk P w K mg base CX0 9 f fd ["_law_script"] (spLaw K B0) := by
  refine F.ok scLaw (fun vs H Q E h => ?_) (fun A outer s H vs Q E hr h => ?_)
  · obtain ⟨a, ns, rfl, _⟩ := h
    rfl
  · obtain ⟨a, ns, rfl, hS, tk, k⟩ := h
    refine ⟨_, pss_S, ?_⟩
    refine ss_cons (of_ps (ps_for PassesOwn.never rfl (pi_list pe_S) (pg_name (i := 1) scLaw.nd rfl (.inr rfl) (.inl rfl)) pss_S) ?_)
    refine t_fo (B := B0) (E := fun _ _ _ => False) Fs.rounds (hr.mono (by decide)) pass0 rfl tk (eap_x (ex_var 0) (eap_x (ex_int ev_int) eap_nil)) fun H1 vs g1 hvs => ?_
    obtain ⟨ws, rfl, ws2, rfl, rfl⟩ := hvs
    refine ⟨B0, a, ns, rfl, g1.tk, g1.sql hS, fun H2 v x y z g2 h2 => ?_⟩
    obtain ⟨lp, xs, rfl, el, hx, hi⟩ := h2.list_at
    obtain ⟨vd, rfl⟩ : ∃ vd, xs = [vd] := by
      have := hi.1
      match xs, this with
      | [vd], _ => exact ⟨vd, rfl⟩
    obtain ⟨D, rfl, dc, nD⟩ := dice_of (hi.2 0 vd _ rfl rfl)
    have hDn : H2 D ≠ none := by
      obtain ⟨x', y', z', e⟩ := dc
      rw [e]
      exact fun z => by cases z
    have neq : lp ≠ D := fun z => by
      obtain ⟨x', y', z', e⟩ := dc
      rw [← z, el] at e
      cases e
    have tk2 : TK (B0.plus [D]) H2 := g2.tk.plus fun a ha => by rw [List.mem_singleton.mp ha]; exact hDn
    refine ⟨lp, rfl, ⟨_, .inl (.inl el)⟩, for_list (K := K) (a := lp) (xs := [.ref D]) (fun i σ' H' => (i = 0 ∧ σ' = start nLaw [.ref a] ∧ H' = H2) ∨ (i ≠ 0 ∧ H' lp = some (.lst [.ref D]))) (.inl ⟨rfl, rfl, rfl⟩) (fun i σ' H' _ h => ?_) ?_ fun σ' H' h => ?_⟩
    · rcases h with ⟨_, _, rfl⟩ | ⟨_, e⟩
      · exact .inl (.inl el)
      · exact .inl (.inl e)
    · rintro i x' σ' H' hi' h
      match i, hi' with
      | 0, hi' =>
        cases hi'
        rcases h with ⟨_, rfl, rfl⟩ | ⟨h, _⟩
        · refine law_turn (B := B0.plus [D]) rfl Fs ⟨TB, rfl, ?_, ?_⟩ ln hr ⟨T.s, T.la, T.lk, T.w, T.wo, T.ke, T.ch⟩ tk2 (List.mem_append_left _ (List.mem_singleton.mpr rfl)) dc fun σ2 H3 w3 => .inr ⟨by decide, w3.at el (fun ps z => by cases z) (by simpa using neq)⟩
          · show (PL, qLam) ∈ B0.TL
            rw [hm]
            exact List.mem_singleton.mpr rfl
          · intro p hp _
            have hp : p ∈ B0.TL := hp
            rw [hm] at hp
            rw [List.mem_singleton.mp hp]
            rfl
        · exact absurd rfl h
      | i + 1, hi' => simp at hi'
    · refine ss_cons (s_ret (of_pe pe_bl (k H')))
end
end K22
end
section
set_option Elab.async false
set_option linter.all false
set_option maxRecDepth 100000
set_option maxHeartbeats 0
/-! K22Hd: the head: what the program's top leaves, by facts. -/
namespace K22
open PySem PySem.Spec PyProof.Rows L2 LamX
def mkD (a : Str × Option Str) (x q : Str) (st : Stmt) : He.DefD := ⟨a, x, q, defArgs st, defBody st, defScope st, [], []⟩
def topD (x : Str) (st : Stmt) : He.DefD := mkD (x, none) x x st
def mthD (c m q : Str) (st : Stmt) : He.DefD := mkD (c, some m) m q st
def hFn : List He.DefD := [topD "laid" sLaid, topD "pairs_of" sPairs, topD "most" sMost, topD "most_cut" sMostCut, topD "cut_worth" sWorth, topD "with_least" sLeast, topD "short_cut" sShort, topD "keeps" sKeeps, topD "check_cut" sCheck,
  topD "_law_flat" sFlat, topD "_law_dice" sDice, topD "_law_roll" sRoll, topD "_law_rounds" sRounds, topD "_law_told" sTold, topD "_law_all" sAll, topD "_law_kept" sKept, topD "_law_bounds" sBounds, topD "law" sLaw,
  mthD "Pipes" "__init__" "Pipes.__init__" sPInit, mthD "Pipes" "lay" "Pipes.lay" sLay, mthD "Pipes" "more_room" "Pipes.more_room" sMore, mthD "Pipes" "ways_from" "Pipes.ways_from" sFrom, mthD "Pipes" "way" "Pipes.way" sWay, mthD "Pipes" "send" "Pipes.send" sSend, mthD "Pipes" "reached" "Pipes.reached" sReach,
  mthD "Wants" "__init__" "Wants.__init__" sWInit, mthD "Wants" "linked" "Wants.linked" sLinked]
def hFa : List He.Fa := [.glo "laid", .glo "pairs_of", .glo "most", .glo "most_cut", .glo "cut_worth", .glo "with_least", .glo "short_cut", .glo "keeps", .glo "check_cut", .glo "_law_flat", .glo "_law_dice", .glo "_law_roll", .glo "_law_rounds", .glo "_law_told", .glo "_law_all", .glo "_law_kept", .glo "_law_bounds", .glo "law",
  .glo "Pipes", .glo "Wants", .glo "BadWish", .glo "BadRoom", .glo "BadMatch", .glo "BadPaper", .glo "BadSize", .glo "BadText", .glo "BadStore", .glo "NoSuch", .glo "BadDeed"]
  ++ [.free "int", .free "abs", .free "range", .free "max", .free "len", .free "any", .free "all", .free "sum", .free "min", .free "tuple", .free "sorted", .free "dict", .free "enumerate", .free "zip", .free "list", .free "reversed"]
  ++ [.cls "Pipes", .cls "Wants", .noat "Pipes" "places", .noat "Pipes" "room", .noat "Pipes" "going", .noat "Wants" "lists", .noat "Wants" "askers", .noat "Wants" "rooms", .meth "Pipes" "lay", .meth "Pipes" "more_room", .meth "Pipes" "ways_from", .meth "Pipes" "way", .meth "Pipes" "send", .meth "Pipes" "reached", .meth "Wants" "linked", .mkr "Pipes", .mkr "Wants"]
  ++ [.exc "BadPaper", .exc "BadSize", .exm "BadPaper" "BadWish" false, .exm "BadPaper" "BadRoom" false, .exm "BadPaper" "BadMatch" false, .exm "BadPaper" "BadPaper" true,
  .exm "BadSize" "BadWish" false, .exm "BadSize" "BadRoom" false, .exm "BadSize" "BadMatch" false, .exm "BadSize" "BadPaper" false, .exm "BadSize" "BadSize" true]
def hTf : List He.Defn := [("Pipes", some "send"), ("laid", none), ("Wants", some "linked"), ("Wants", some "__init__"), ("cut_worth", none), ("keeps", none), ("check_cut", none), ("law", none)]
/-- law's table is none of the others' -/
def hOth : List He.Defn := [("Pipes", some "send"), ("laid", none), ("Wants", some "linked"), ("Wants", some "__init__"), ("cut_worth", none), ("keeps", none), ("check_cut", none)]
def hEx (K : PySem.W.Frag) : Bool := hOth.all fun p => !decide ((He.cT K ("law", none)).2 = (He.cT K p).2)
abbrev hR : PySem.W.OpenRow := PySem.W.OpenLaw.row PySem.Challenge.rw_pairmart_k22_several_each_with_bounds
abbrev hNames : List Str := ["MarketFault", "BadWish", "BadRoom", "BadMatch", "BadPaper", "BadSize", "BadText", "BadStore", "NoSuch", "BadDeed", "Pipes", "Wants", "laid", "pairs_of", "most", "most_cut", "cut_worth", "with_least", "short_cut", "keeps", "check_cut", "_law_flat", "_law_dice", "_law_roll", "_law_rounds", "_law_told", "_law_all", "_law_kept", "_law_bounds"]
abbrev hk : PySem.W.Hook := He.hookX 5 hFa hFn [] hTf hEx
def hOb (s : PySem.W.SharedT) : He.AlX := He.obsX 5 hFa hFn [] hTf hEx (HandSHeadRun.getT s)
theorem hOb_eq (s : PySem.W.SharedT) : hOb s = hk.obs s.abs := He.obsX_eq (HandSHeadRun.getT_eq s)
theorem hRun (w : World) : HandSHeadRun.RunEq hR (PySem.W.view hR.prog [32]) hk hOb 20000 hNames w := by
  intro os
  kernel_rfl
end K22
end
set_option Elab.async false
set_option linter.all false
set_option maxRecDepth 100000
set_option maxHeartbeats 2000000
/-! K22Fin: from the head's facts to the law (printed by wip/mkfin.py). -/
namespace K22
open PySem PySem.Spec PyProof.Rows L2 LamX Pm
section
variable {w : World} {h : Heap} {K : PySem.W.Frag} {mg : Str → Option Value} {base : Heap} {P : Program}
abbrev HSays (w : World) (h : Heap) (K : PySem.W.Frag) : Prop := He.SaysX hFa hFn [] hTf hEx w h K
theorem fun_at (c : HSays w h K) (i : Nat) {a : Str × Option Str} {x q : Str} {st : Stmt} (e : hFn[i]? = some (mkD a x q st)) : ∃ fd, Fun K x q st (He.fAd K a) fd := by
  obtain ⟨fd, F⟩ := c.t.d.def_ i e
  obtain ⟨oc, od, dV, kV, doc, pm, an, cdv, ct, osl, r, lk, hcd, hD, _⟩ := F.ex
  rcases hD with ⟨_, rfl⟩ | ⟨z, _⟩
  · exact ⟨fd, ⟨oc, od, kV, doc, pm, an, cdv, ct, osl, r, lk, hcd⟩, F.kp⟩
  · exact absurd rfl z
theorem func_at (c : HSays w h K) (i : Nat) {a : Str × Option Str} {x q : Str} {st : Stmt} (e : hFn[i]? = some (mkD a x q st)) : ∃ fd, FunC K x q st (He.fAd K a) (He.cT K a).1 fd := by
  obtain ⟨fd, F⟩ := fun_at c i e
  obtain ⟨oc, od, kV, doc, pm, an, cdv, ct, osl, r, lk, hcd⟩ := F.ex
  obtain ⟨c', rfl⟩ := He.codeIn_ref hcd
  have ec : He.codeOf K a = c' := He.codeOf_eq lk (by rw [r])
  refine ⟨fd, ⟨oc, od, kV, doc, pm, an, ct, osl, ?_, lk, ?_⟩, F.kp⟩
  · show fd = PySem.W.fnOf x q (defArgs st) (defBody st) (defScope st) .none kV doc pm an (.ref (He.codeOf K a)) ct
    rw [ec]
    exact r
  · show PySem.W.codeIn K (.ref (He.codeOf K a)) q = true
    rw [ec]
    exact hcd
theorem g_of {c' P' : Addr} (t : LamX.TabB base mg c' P') : GxR.TabB base mg c' P' := ⟨t.code, t.bm, t.gP⟩
/-- the tables' names in the ambient of law's walk -/
def amb0 (K : PySem.W.Frag) : Amb := ⟨K, [], hOth.map fun p => (He.cT K p).2, [((He.cT K ("law", none)).2, qLam)]⟩
theorem law_facts {fdlaw : FuncData} (c : HSays w h K) (X : K.In h) (G : h.Ns mainGlobals mg) (TB : ∀ p ∈ hTf.map (He.cT K), LamX.TabB base mg p.1 p.2) (Flaw : FunC K "law" "law" sLaw (He.fAd K ("law", none)) (He.cT K ("law", none)).1 fdlaw) : FnOk P w K mg base CX0 9 (He.ga K "law") fdlaw ["_law_script"] (spLaw K (amb0 K)) := by
  obtain ⟨fdlaid, Flaid⟩ := func_at c 0 (a := ("laid", none)) (x := "laid") (q := "laid") (st := sLaid) rfl
  have blaid : Binds K fdlaid ["wants", "least"] [] := Flaid.fn.binds fun _ _ _ _ _ _ us hl => match us, hl with | [_, _], _ => rfl
  obtain ⟨fdpairs_of, Fpairs_of⟩ := fun_at c 1 (a := ("pairs_of", none)) (x := "pairs_of") (q := "pairs_of") (st := sPairs) rfl
  have bpairs_of : Binds K fdpairs_of ["wants", "pipes"] [] := Fpairs_of.binds fun _ _ _ _ _ _ us hl => match us, hl with | [_, _], _ => rfl
  obtain ⟨fdmost, Fmost⟩ := fun_at c 2 (a := ("most", none)) (x := "most") (q := "most") (st := sMost) rfl
  have bmost : Binds K fdmost ["wants"] [] := Fmost.binds fun _ _ _ _ _ _ us hl => match us, hl with | [_], _ => rfl
  obtain ⟨fdmost_cut, Fmost_cut⟩ := fun_at c 3 (a := ("most_cut", none)) (x := "most_cut") (q := "most_cut") (st := sMostCut) rfl
  have bmost_cut : Binds K fdmost_cut ["wants"] [] := Fmost_cut.binds fun _ _ _ _ _ _ us hl => match us, hl with | [_], _ => rfl
  obtain ⟨fdcut_worth, Fcut_worth⟩ := func_at c 4 (a := ("cut_worth", none)) (x := "cut_worth") (q := "cut_worth") (st := sWorth) rfl
  have bcut_worth : Binds K fdcut_worth ["wants", "cut"] [] := Fcut_worth.fn.binds fun _ _ _ _ _ _ us hl => match us, hl with | [_, _], _ => rfl
  obtain ⟨fdwith_least, Fwith_least⟩ := fun_at c 5 (a := ("with_least", none)) (x := "with_least") (q := "with_least") (st := sLeast) rfl
  have bwith_least : Binds K fdwith_least ["wants"] [] := Fwith_least.binds fun _ _ _ _ _ _ us hl => match us, hl with | [_], _ => rfl
  obtain ⟨fdshort_cut, Fshort_cut⟩ := fun_at c 6 (a := ("short_cut", none)) (x := "short_cut") (q := "short_cut") (st := sShort) rfl
  have bshort_cut : Binds K fdshort_cut ["wants"] [] := Fshort_cut.binds fun _ _ _ _ _ _ us hl => match us, hl with | [_], _ => rfl
  obtain ⟨fdkeeps, Fkeeps⟩ := func_at c 7 (a := ("keeps", none)) (x := "keeps") (q := "keeps") (st := sKeeps) rfl
  have bkeeps : Binds K fdkeeps ["wants", "pairs"] [] := Fkeeps.fn.binds fun _ _ _ _ _ _ us hl => match us, hl with | [_, _], _ => rfl
  obtain ⟨fdcheck_cut, Fcheck_cut⟩ := func_at c 8 (a := ("check_cut", none)) (x := "check_cut") (q := "check_cut") (st := sCheck) rfl
  have bcheck_cut : Binds K fdcheck_cut ["wants", "cut"] [] := Fcheck_cut.fn.binds fun _ _ _ _ _ _ us hl => match us, hl with | [_, _], _ => rfl
  obtain ⟨fdl_flat, Fl_flat⟩ := fun_at c 9 (a := ("_law_flat", none)) (x := "_law_flat") (q := "_law_flat") (st := sFlat) rfl
  have bl_flat : Binds K fdl_flat ["_law_rows"] [] := Fl_flat.binds fun _ _ _ _ _ _ us hl => match us, hl with | [_], _ => rfl
  obtain ⟨fdl_dice, Fl_dice⟩ := fun_at c 10 (a := ("_law_dice", none)) (x := "_law_dice") (q := "_law_dice") (st := sDice) rfl
  have bl_dice : Binds K fdl_dice ["_law_cell"] [] := Fl_dice.binds fun _ _ _ _ _ _ us hl => match us, hl with | [_], _ => rfl
  obtain ⟨fdl_roll, Fl_roll⟩ := fun_at c 11 (a := ("_law_roll", none)) (x := "_law_roll") (q := "_law_roll") (st := sRoll) rfl
  have bl_roll : Binds K fdl_roll ["_law_dice_here", "_law_many"] [] := Fl_roll.binds fun _ _ _ _ _ _ us hl => match us, hl with | [_, _], _ => rfl
  obtain ⟨fdl_rounds, Fl_rounds⟩ := fun_at c 12 (a := ("_law_rounds", none)) (x := "_law_rounds") (q := "_law_rounds") (st := sRounds) rfl
  have bl_rounds : Binds K fdl_rounds ["_law_script", "_law_count_of"] [] := Fl_rounds.binds fun _ _ _ _ _ _ us hl => match us, hl with | [_, _], _ => rfl
  obtain ⟨fdl_told, Fl_told⟩ := fun_at c 13 (a := ("_law_told", none)) (x := "_law_told") (q := "_law_told") (st := sTold) rfl
  have bl_told : Binds K fdl_told ["_law_what"] [] := Fl_told.binds fun _ _ _ _ _ _ us hl => match us, hl with | [_], _ => rfl
  obtain ⟨fdl_all, Fl_all⟩ := fun_at c 14 (a := ("_law_all", none)) (x := "_law_all") (q := "_law_all") (st := sAll) rfl
  have bl_all : Binds K fdl_all ["_law_pairs"] [] := Fl_all.binds fun _ _ _ _ _ _ us hl => match us, hl with | [_], _ => rfl
  obtain ⟨fdl_kept, Fl_kept⟩ := fun_at c 15 (a := ("_law_kept", none)) (x := "_law_kept") (q := "_law_kept") (st := sKept) rfl
  have bl_kept : Binds K fdl_kept ["_law_lot", "_law_askers", "_law_rooms", "_law_least"] [] := Fl_kept.binds fun _ _ _ _ _ _ us hl => match us, hl with | [_, _, _, _], _ => rfl
  obtain ⟨fdl_bounds, Fl_bounds⟩ := fun_at c 16 (a := ("_law_bounds", none)) (x := "_law_bounds") (q := "_law_bounds") (st := sBounds) rfl
  have bl_bounds : Binds K fdl_bounds ["_law_dice_here", "_law_many"] [] := Fl_bounds.binds fun _ _ _ _ _ _ us hl => match us, hl with | [_, _], _ => rfl
  obtain ⟨fdPinit, FPinit⟩ := fun_at c 18 (a := ("Pipes", some "__init__")) (x := "__init__") (q := "Pipes.__init__") (st := sPInit) rfl
  have bPinit : Binds K fdPinit ["self", "many"] [] := FPinit.binds fun _ _ _ _ _ _ us hl => match us, hl with | [_, _], _ => rfl
  obtain ⟨fdPlay, FPlay⟩ := fun_at c 19 (a := ("Pipes", some "lay")) (x := "lay") (q := "Pipes.lay") (st := sLay) rfl
  have bPlay : Binds K fdPlay ["self", "one", "other", "room"] [] := FPlay.binds fun _ _ _ _ _ _ us hl => match us, hl with | [_, _, _, _], _ => rfl
  obtain ⟨fdPmore_room, FPmore_room⟩ := fun_at c 20 (a := ("Pipes", some "more_room")) (x := "more_room") (q := "Pipes.more_room") (st := sMore) rfl
  have bPmore_room : Binds K fdPmore_room ["self", "one", "other"] [] := FPmore_room.binds fun _ _ _ _ _ _ us hl => match us, hl with | [_, _, _], _ => rfl
  obtain ⟨fdPways_from, FPways_from⟩ := fun_at c 21 (a := ("Pipes", some "ways_from")) (x := "ways_from") (q := "Pipes.ways_from") (st := sFrom) rfl
  have bPways_from : Binds K fdPways_from ["self", "one"] [] := FPways_from.binds fun _ _ _ _ _ _ us hl => match us, hl with | [_, _], _ => rfl
  obtain ⟨fdPway, FPway⟩ := fun_at c 22 (a := ("Pipes", some "way")) (x := "way") (q := "Pipes.way") (st := sWay) rfl
  have bPway : Binds K fdPway ["self", "start", "end"] [] := FPway.binds fun _ _ _ _ _ _ us hl => match us, hl with | [_, _, _], _ => rfl
  obtain ⟨fdPsend, FPsend⟩ := func_at c 23 (a := ("Pipes", some "send")) (x := "send") (q := "Pipes.send") (st := sSend) rfl
  have bPsend : Binds K fdPsend ["self", "start", "end"] [] := FPsend.fn.binds fun _ _ _ _ _ _ us hl => match us, hl with | [_, _, _], _ => rfl
  obtain ⟨fdPreached, FPreached⟩ := fun_at c 24 (a := ("Pipes", some "reached")) (x := "reached") (q := "Pipes.reached") (st := sReach) rfl
  have bPreached : Binds K fdPreached ["self", "start"] [] := FPreached.binds fun _ _ _ _ _ _ us hl => match us, hl with | [_, _], _ => rfl
  obtain ⟨fdWinit, FWinit⟩ := func_at c 25 (a := ("Wants", some "__init__")) (x := "__init__") (q := "Wants.__init__") (st := sWInit) rfl
  have bWinit : Binds K fdWinit ["self", "lists", "asker_bounds", "room_bounds"] [] := FWinit.fn.binds fun _ _ _ _ _ _ us hl => match us, hl with | [_, _, _, _], _ => rfl
  obtain ⟨fdWlinked, FWlinked⟩ := func_at c 26 (a := ("Wants", some "linked")) (x := "linked") (q := "Wants.linked") (st := sLinked) rfl
  have bWlinked : Binds K fdWlinked ["self", "askers", "rooms"] [] := FWlinked.fn.binds fun _ _ _ _ _ _ us hl => match us, hl with | [_, _, _], _ => rfl
  have g_laid := He.glo_ok X G (c.t.d.fact 0 (f := .glo "laid") rfl)
  have g_pairs_of := He.glo_ok X G (c.t.d.fact 1 (f := .glo "pairs_of") rfl)
  have g_most := He.glo_ok X G (c.t.d.fact 2 (f := .glo "most") rfl)
  have g_most_cut := He.glo_ok X G (c.t.d.fact 3 (f := .glo "most_cut") rfl)
  have g_cut_worth := He.glo_ok X G (c.t.d.fact 4 (f := .glo "cut_worth") rfl)
  have g_with_least := He.glo_ok X G (c.t.d.fact 5 (f := .glo "with_least") rfl)
  have g_short_cut := He.glo_ok X G (c.t.d.fact 6 (f := .glo "short_cut") rfl)
  have g_keeps := He.glo_ok X G (c.t.d.fact 7 (f := .glo "keeps") rfl)
  have g_check_cut := He.glo_ok X G (c.t.d.fact 8 (f := .glo "check_cut") rfl)
  have g__law_flat := He.glo_ok X G (c.t.d.fact 9 (f := .glo "_law_flat") rfl)
  have g__law_dice := He.glo_ok X G (c.t.d.fact 10 (f := .glo "_law_dice") rfl)
  have g__law_roll := He.glo_ok X G (c.t.d.fact 11 (f := .glo "_law_roll") rfl)
  have g__law_rounds := He.glo_ok X G (c.t.d.fact 12 (f := .glo "_law_rounds") rfl)
  have g__law_told := He.glo_ok X G (c.t.d.fact 13 (f := .glo "_law_told") rfl)
  have g__law_all := He.glo_ok X G (c.t.d.fact 14 (f := .glo "_law_all") rfl)
  have g__law_kept := He.glo_ok X G (c.t.d.fact 15 (f := .glo "_law_kept") rfl)
  have g__law_bounds := He.glo_ok X G (c.t.d.fact 16 (f := .glo "_law_bounds") rfl)
  have g_law := He.glo_ok X G (c.t.d.fact 17 (f := .glo "law") rfl)
  have g_Pipes := He.glo_ok X G (c.t.d.fact 18 (f := .glo "Pipes") rfl)
  have g_Wants := He.glo_ok X G (c.t.d.fact 19 (f := .glo "Wants") rfl)
  have g_BadWish := He.glo_ok X G (c.t.d.fact 20 (f := .glo "BadWish") rfl)
  have g_BadRoom := He.glo_ok X G (c.t.d.fact 21 (f := .glo "BadRoom") rfl)
  have g_BadMatch := He.glo_ok X G (c.t.d.fact 22 (f := .glo "BadMatch") rfl)
  have g_BadPaper := He.glo_ok X G (c.t.d.fact 23 (f := .glo "BadPaper") rfl)
  have g_BadSize := He.glo_ok X G (c.t.d.fact 24 (f := .glo "BadSize") rfl)
  have g_BadText := He.glo_ok X G (c.t.d.fact 25 (f := .glo "BadText") rfl)
  have g_BadStore := He.glo_ok X G (c.t.d.fact 26 (f := .glo "BadStore") rfl)
  have g_NoSuch := He.glo_ok X G (c.t.d.fact 27 (f := .glo "NoSuch") rfl)
  have g_BadDeed := He.glo_ok X G (c.t.d.fact 28 (f := .glo "BadDeed") rfl)
  have z_int := He.free_ok X G (c.t.d.fact 29 (f := .free "int") rfl)
  have z_abs := He.free_ok X G (c.t.d.fact 30 (f := .free "abs") rfl)
  have z_range := He.free_ok X G (c.t.d.fact 31 (f := .free "range") rfl)
  have z_max := He.free_ok X G (c.t.d.fact 32 (f := .free "max") rfl)
  have z_len := He.free_ok X G (c.t.d.fact 33 (f := .free "len") rfl)
  have z_any := He.free_ok X G (c.t.d.fact 34 (f := .free "any") rfl)
  have z_all := He.free_ok X G (c.t.d.fact 35 (f := .free "all") rfl)
  have z_sum := He.free_ok X G (c.t.d.fact 36 (f := .free "sum") rfl)
  have z_min := He.free_ok X G (c.t.d.fact 37 (f := .free "min") rfl)
  have z_tuple := He.free_ok X G (c.t.d.fact 38 (f := .free "tuple") rfl)
  have z_sorted := He.free_ok X G (c.t.d.fact 39 (f := .free "sorted") rfl)
  have z_dict := He.free_ok X G (c.t.d.fact 40 (f := .free "dict") rfl)
  have z_enumerate := He.free_ok X G (c.t.d.fact 41 (f := .free "enumerate") rfl)
  have z_zip := He.free_ok X G (c.t.d.fact 42 (f := .free "zip") rfl)
  have z_list := He.free_ok X G (c.t.d.fact 43 (f := .free "list") rfl)
  have z_reversed := He.free_ok X G (c.t.d.fact 44 (f := .free "reversed") rfl)
  have c_Pipes := He.cls_ok (c.t.d.fact 45 (f := .cls "Pipes") rfl)
  have c_Wants := He.cls_ok (c.t.d.fact 46 (f := .cls "Wants") rfl)
  have n_Pipes_places := He.noat_ok (c.t.d.fact 47 (f := .noat "Pipes" "places") rfl)
  have n_Pipes_room := He.noat_ok (c.t.d.fact 48 (f := .noat "Pipes" "room") rfl)
  have n_Pipes_going := He.noat_ok (c.t.d.fact 49 (f := .noat "Pipes" "going") rfl)
  have n_Wants_lists := He.noat_ok (c.t.d.fact 50 (f := .noat "Wants" "lists") rfl)
  have n_Wants_askers := He.noat_ok (c.t.d.fact 51 (f := .noat "Wants" "askers") rfl)
  have n_Wants_rooms := He.noat_ok (c.t.d.fact 52 (f := .noat "Wants" "rooms") rfl)
  have m_Pipes_lay := He.meth_ok (c.t.d.fact 53 (f := .meth "Pipes" "lay") rfl)
  have m_Pipes_more_room := He.meth_ok (c.t.d.fact 54 (f := .meth "Pipes" "more_room") rfl)
  have m_Pipes_ways_from := He.meth_ok (c.t.d.fact 55 (f := .meth "Pipes" "ways_from") rfl)
  have m_Pipes_way := He.meth_ok (c.t.d.fact 56 (f := .meth "Pipes" "way") rfl)
  have m_Pipes_send := He.meth_ok (c.t.d.fact 57 (f := .meth "Pipes" "send") rfl)
  have m_Pipes_reached := He.meth_ok (c.t.d.fact 58 (f := .meth "Pipes" "reached") rfl)
  have m_Wants_linked := He.meth_ok (c.t.d.fact 59 (f := .meth "Wants" "linked") rfl)
  have k_Pipes := He.mkr_ok (c.t.d.fact 60 (f := .mkr "Pipes") rfl)
  have k_Wants := He.mkr_ok (c.t.d.fact 61 (f := .mkr "Wants") rfl)
  have x_BadPaper := He.exc_ok (c.t.d.fact 62 (f := .exc "BadPaper") rfl)
  have x_BadSize := He.exc_ok (c.t.d.fact 63 (f := .exc "BadSize") rfl)
  have e_BadPaper_BadWish := He.exm_ok (c.t.d.fact 64 (f := .exm "BadPaper" "BadWish" false) rfl)
  have e_BadPaper_BadRoom := He.exm_ok (c.t.d.fact 65 (f := .exm "BadPaper" "BadRoom" false) rfl)
  have e_BadPaper_BadMatch := He.exm_ok (c.t.d.fact 66 (f := .exm "BadPaper" "BadMatch" false) rfl)
  have e_BadPaper_BadPaper := He.exm_ok (c.t.d.fact 67 (f := .exm "BadPaper" "BadPaper" true) rfl)
  have e_BadSize_BadWish := He.exm_ok (c.t.d.fact 68 (f := .exm "BadSize" "BadWish" false) rfl)
  have e_BadSize_BadRoom := He.exm_ok (c.t.d.fact 69 (f := .exm "BadSize" "BadRoom" false) rfl)
  have e_BadSize_BadMatch := He.exm_ok (c.t.d.fact 70 (f := .exm "BadSize" "BadMatch" false) rfl)
  have e_BadSize_BadPaper := He.exm_ok (c.t.d.fact 71 (f := .exm "BadSize" "BadPaper" false) rfl)
  have e_BadSize_BadSize := He.exm_ok (c.t.d.fact 72 (f := .exm "BadSize" "BadSize" true) rfl)
  have TPsend := TB _ (List.mem_of_getElem? (i := 0) (show (hTf.map (He.cT K))[0]? = some (He.cT K ("Pipes", some "send")) from rfl))
  have Tlaid := TB _ (List.mem_of_getElem? (i := 1) (show (hTf.map (He.cT K))[1]? = some (He.cT K ("laid", none)) from rfl))
  have TWlinked := TB _ (List.mem_of_getElem? (i := 2) (show (hTf.map (He.cT K))[2]? = some (He.cT K ("Wants", some "linked")) from rfl))
  have TWinit := TB _ (List.mem_of_getElem? (i := 3) (show (hTf.map (He.cT K))[3]? = some (He.cT K ("Wants", some "__init__")) from rfl))
  have Tcut_worth := TB _ (List.mem_of_getElem? (i := 4) (show (hTf.map (He.cT K))[4]? = some (He.cT K ("cut_worth", none)) from rfl))
  have Tkeeps := TB _ (List.mem_of_getElem? (i := 5) (show (hTf.map (He.cT K))[5]? = some (He.cT K ("keeps", none)) from rfl))
  have Tcheck_cut := TB _ (List.mem_of_getElem? (i := 6) (show (hTf.map (He.cT K))[6]? = some (He.cT K ("check_cut", none)) from rfl))
  have Tlaw := TB _ (List.mem_of_getElem? (i := 7) (show (hTf.map (He.cT K))[7]? = some (He.cT K ("law", none)) from rfl))
  have PT : PTx K mg (He.ga K "Pipes") _ _ _ _ := ⟨⟨c_Pipes, n_Pipes_places, n_Pipes_room, n_Pipes_going⟩, z_range, z_list, z_reversed, z_zip, z_tuple, z_sorted, z_min, FPmore_room, bPmore_room, m_Pipes_more_room, FPways_from, bPways_from, m_Pipes_ways_from⟩
  have WT : WTx K mg (He.ga K "Wants") (He.ga K "BadSize") := ⟨⟨c_Wants, n_Wants_lists, n_Wants_askers, n_Wants_rooms⟩, z_len, z_any, z_sum, z_tuple, z_sorted, z_dict, ⟨x_BadSize.1, g_BadSize, x_BadSize.2.1, x_BadSize.2.2.1, x_BadSize.2.2.2⟩⟩
  have AL : All K mg (He.ga K "Pipes") (He.ga K "Wants") (He.ga K "BadSize") _ _ _ _ _ _ _ _ _ _ := ⟨PT, WT, z_enumerate, g_Pipes, k_Pipes, FPinit, bPinit, FPlay, bPlay, m_Pipes_lay, FPway, bPway, m_Pipes_way⟩
  have SN : Snd K mg base (He.ga K "Pipes") _ _ _ _ _ _ _ _ _ _ _ _ := ⟨FPsend, g_of TPsend, bPsend, m_Pipes_send, FPreached, bPreached, m_Pipes_reached, Flaid, g_of Tlaid, blaid, g_laid, Fpairs_of, bpairs_of, g_pairs_of⟩
  have LK : Lkd K mg base (He.ga K "Wants") _ _ _ _ := ⟨FWlinked, g_of TWlinked, bWlinked, m_Wants_linked⟩
  have RL : Rl K mg _ _ := ⟨Fl_roll, bl_roll, g__law_roll, z_int⟩
  have BP : XC K mg "BadPaper" (He.ga K "BadPaper") := ⟨x_BadPaper.1, g_BadPaper, x_BadPaper.2.1, x_BadPaper.2.2.1, x_BadPaper.2.2.2⟩
  have TF : TellF K mg (He.ga K "_law_told") := by
    refine ⟨?_, Fl_told.kp, g__law_told⟩
    obtain ⟨oc, od, kV, doc, pm, an, cdv, ct, osl, r, lk, hcd⟩ := Fl_told.ex
    subst r
    exact ⟨oc, od, .none, kV, doc, pm, cdv, ct, an, osl, lk, hcd, bl_told⟩
  have ER : Errs K mg (He.ga K "BadPaper") (He.ga K "BadSize") _ _ _ _ _ _ _ := ⟨g_BadWish, g_BadRoom, g_BadMatch, g_BadPaper, g_BadSize, g_BadText, g_BadStore, g_NoSuch, g_BadDeed, e_BadPaper_BadWish, e_BadPaper_BadRoom, e_BadPaper_BadMatch, e_BadPaper_BadPaper, e_BadSize_BadWish, e_BadSize_BadRoom, e_BadSize_BadMatch, e_BadSize_BadPaper, e_BadSize_BadSize⟩
  have LF : LawF P w K mg base (He.ga K "Wants") (He.ga K "BadSize") (He.ga K "BadPaper") (He.cT K ("Pipes", some "send")).2 (He.cT K ("laid", none)).2 (He.cT K ("Wants", some "linked")).2 (He.cT K ("Wants", some "__init__")).2 (He.cT K ("cut_worth", none)).2 (He.cT K ("keeps", none)).2 (He.cT K ("check_cut", none)).2 (He.ga K "_law_told") _ _ _ _ _ _ _ := {
    rounds := ⟨_, _, ok_rounds Fl_rounds Fl_dice bl_dice g__law_dice z_int z_abs, bl_rounds, g__law_rounds, Fl_rounds.kp⟩
    roll := ⟨_, _, RL⟩
    bounds := ⟨_, _, ok_bounds Fl_bounds RL z_range, bl_bounds, g__law_bounds, Fl_bounds.kp⟩
    flat := ⟨_, _, ok_flat Fl_flat, bl_flat, g__law_flat, Fl_flat.kp⟩
    all := ⟨_, _, ok_all Fl_all, bl_all, g__law_all, Fl_all.kp⟩
    kept := ⟨_, _, ok_kept Fl_kept z_range z_len, bl_kept, g__law_kept, Fl_kept.kp⟩
    most := ⟨_, _, ok_most Fmost AL SN, bmost, g_most, Fmost.kp⟩
    mcut := ⟨_, _, ok_most_cut Fmost_cut AL SN, bmost_cut, g_most_cut, Fmost_cut.kp⟩
    least := ⟨_, _, ok_least Fwith_least AL SN, bwith_least, g_with_least, Fwith_least.kp⟩
    short := ⟨_, _, ok_short Fshort_cut AL SN, bshort_cut, g_short_cut, Fshort_cut.kp⟩
    worth := ⟨_, _, ok_worth Fcut_worth (g_of Tcut_worth) WT z_range z_enumerate LK, bcut_worth, g_cut_worth, Fcut_worth.kp⟩
    keeps := ⟨_, _, ok_keeps Fkeeps (g_of Tkeeps) WT z_range z_enumerate z_all, bkeeps, g_keeps, Fkeeps.kp⟩
    check := ⟨_, _, ok_check Fcheck_cut (g_of Tcheck_cut) WT z_range BP LK, bcheck_cut, g_check_cut, Fcheck_cut.kp⟩
    wants := ⟨_, _, _, k_Wants, g_Wants, FWinit, g_of TWinit, bWinit⟩
    X := WT
    linked := ⟨_, _, _, LK⟩
    told := TF
    errs := ER
    rg := z_range
    mx := z_max }
  have mem : ∀ (i : Nat) (p : He.Defn), hOth[i]? = some p → (He.cT K p).2 ∈ (amb0 K).TG := fun i p e => List.mem_map.mpr ⟨p, List.mem_of_getElem? e, rfl⟩
  exact ok_law Flaw LF Tlaw rfl z_len ⟨mem 0 _ rfl, mem 1 _ rfl, mem 2 _ rfl, mem 3 _ rfl, mem 4 _ rfl, mem 5 _ rfl, mem 6 _ rfl⟩
/-- the ambient stands where the tables are empty -/
theorem tk0 (c : HSays w h K) {H : Hp} (hH : ∀ p ∈ hTf.map (He.cT K), H p.2 = some (.tbl #[])) : TK (amb0 K) H := by
  have at_ : ∀ p ∈ hTf, H (He.cT K p).2 = some (.tbl #[]) := fun p hp => hH _ (List.mem_map.mpr ⟨p, hp, rfl⟩)
  have sub : ∀ p ∈ hOth, p ∈ hTf := fun p hp => by
    obtain ⟨i, hi, e⟩ := List.mem_iff_getElem.mp hp
    match i, hi with
    | 0, _ => exact List.mem_of_getElem? (i := 0) (by rw [← e]; rfl)
    | 1, _ => exact List.mem_of_getElem? (i := 1) (by rw [← e]; rfl)
    | 2, _ => exact List.mem_of_getElem? (i := 2) (by rw [← e]; rfl)
    | 3, _ => exact List.mem_of_getElem? (i := 3) (by rw [← e]; rfl)
    | 4, _ => exact List.mem_of_getElem? (i := 4) (by rw [← e]; rfl)
    | 5, _ => exact List.mem_of_getElem? (i := 5) (by rw [← e]; rfl)
    | 6, _ => exact List.mem_of_getElem? (i := 6) (by rw [← e]; rfl)
    | i + 7, hi => exact absurd hi (by show ¬ (i + 7 < 7); omega)
  refine ⟨fun P' hP' => ?_, fun q hq => ?_, (fun a ha => nomatch ha), fun P' hP' q hq => ?_⟩
  · obtain ⟨p, hp, rfl⟩ := List.mem_map.mp hP'
    exact ⟨#[], at_ p (sub p hp), True.intro⟩
  · rw [List.mem_singleton.mp hq]
    exact LamX.TabS.nil (at_ _ (List.mem_of_getElem? (i := 7) rfl))
  · obtain ⟨p, hp, rfl⟩ := List.mem_map.mp hP'
    rw [List.mem_singleton.mp hq]
    have := List.all_eq_true.mp c.more p hp
    simpa using this
end
end K22
open PySem PySem.W PySem.Calls PyProof.Rows
theorem PySem.Challenge.cw_pairmart_k22_several_each_with_bounds_holds : PySem.Challenge.rw_pairmart_k22_several_each_with_bounds.Holds := by
  w_on; o_law
  refine HandSHeadRun.head_any (r := OpenLaw.row PySem.Challenge.rw_pairmart_k22_several_each_with_bounds) (q := view (OpenLaw.row PySem.Challenge.rw_pairmart_k22_several_each_with_bounds).prog [32]) (H := K22.hk) (ob := K22.hOb) (M := 20000) (loose := K22.hNames) (d := HandSHeadRun.topDef (OpenLaw.row PySem.Challenge.rw_pairmart_k22_several_each_with_bounds).prog 32) (kwd := []) K22.hOb_eq
    (by kernel_rfl) (fun s => by kernel_rfl) K22.hRun (by kernel_rfl) (by kernel_rfl) (by kernel_rfl) (by rfl) (by first | assumption | decide +kernel) (by decide +kernel) ⟨rfl, rfl, rfl, rfl, rfl, by decide +kernel⟩ ?hw ?hc
  case hw => w_witness2
  case hc =>
    refine LamX.walk_ofTsE (l := PySem.Challenge.rw_pairmart_k22_several_each_with_bounds) (n := 63) (k := 9) (x := "_law_script") (CX := fun _ => L2.CX0) rfl (by decide) (by kernel_rfl) ⟨rfl, by decide, by decide⟩ ?F (fun _ _ _ _ _ z => z)
    intro w mg fa h Y G hmg0
    obtain ⟨K, KX, c⟩ := Y
    have hmg : mg ("law" : PySem.Str) = some (.ref fa) := by
      have e : (HandSHeadRun.topDef (OpenLaw.row PySem.Challenge.rw_pairmart_k22_several_each_with_bounds).prog 32).name = ("law" : PySem.Str) := by kernel_rfl
      rw [← e]
      exact hmg0
    have e := hmg.symm.trans (He.glo_ok KX G (c.t.d.fact 17 (f := .glo "law") rfl))
    cases e
    have TB0 : ∀ p ∈ K22.hTf.map (He.cT K), ∃ q ∈ K22.hTf, p = He.cT K q := fun p hp => by
      obtain ⟨q, hq, rfl⟩ := List.mem_map.mp hp
      exact ⟨q, hq, rfl⟩
    have hfd : ∃ fd : FuncData, (∀ (s : Shared) (v : Value), BindsTo s fd ⟨[v], []⟩ [("_law_script", v)]) ∧ ∀ base : Heap, K.In base → base.Ns mainGlobals mg → (∀ p ∈ K22.hTf.map (He.cT K), LamX.TabB base mg p.1 p.2) → L2.FnOk PySem.Challenge.rw_pairmart_k22_several_each_with_bounds.prog w K mg base L2.CX0 9 (He.ga K "law") fd ["_law_script"] (K22.spLaw K (K22.amb0 K)) := by
      obtain ⟨fd0, F0⟩ := K22.func_at c 17 (a := ("law", none)) (x := "law") (q := "law") (st := K22.sLaw) rfl
      refine ⟨fd0, fun s v => ?_, fun base Kb Gb TB => ?_⟩
      · obtain ⟨oc, od, kV, doc, pm, an, ct, osl, r, lk, hcd⟩ := F0.ex
        subst r
        exact .of_eq rfl
      · exact K22.law_facts (P := PySem.Challenge.rw_pairmart_k22_several_each_with_bounds.prog) c KX G TB F0
    obtain ⟨fd, hb, hF⟩ := hfd
    refine ⟨K, KX, fd, K22.hTf.map (He.cT K), K22.spLaw K (K22.amb0 K), fun p hp => ?_, fun p hp => ?_, fun p hp => ?_, hb, fun H a ns hl _ hT hS => ⟨a, ns, rfl, hS, K22.tk0 c hT, fun _ => rfl⟩, hF⟩
    · obtain ⟨q, hq, rfl⟩ := TB0 p hp
      exact c.empty q hq
    · obtain ⟨q, hq, rfl⟩ := TB0 p hp
      exact c.out q hq
    · obtain ⟨q, hq, rfl⟩ := TB0 p hp
      exact PySem.W.codeHd_of_K KX (c.hd q hq)
