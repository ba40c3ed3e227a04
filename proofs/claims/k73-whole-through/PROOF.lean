import PyProof.Rows.All
import Wide.All
import OpenK.AllK
import Wide.FinOn
import KE.KRevIter
import KE.GoesEnum
import HandS.ForMost
import HandS.Rev
import HandS.Conv
import HandS.RevRange
import HandS.IsInst
import HandS.Evl
import HandS.More
import HandS.Walk
import PySem.Challenge.RW_boughask_k73_whole_through_kept_answers
set_option Elab.async false
set_option linter.all false
set_option maxHeartbeats 4000000
/-! The plain mathematics: depth lists, uppers, ends, beneath; the tables; matches; laid together. No program in sight. -/
namespace BM

/-! ### depth lists -/
def dep (ds : List Nat) (i : Nat) : Nat := ds.getD i 0
structure Good (ds : List Nat) : Prop where
  pos : 0 < ds.length
  first : dep ds 0 = 1
  low : ∀ i, 0 < i → i < ds.length → 2 ≤ dep ds i
  step : ∀ i, 0 < i → i < ds.length → dep ds i ≤ dep ds (i - 1) + 1

def stk (ds : List Nat) : Nat → List Nat
  | 0 => []
  | i + 1 => (stk ds i).take (dep ds i - 1) ++ [i]
theorem stk_zero (ds : List Nat) : stk ds 0 = [] := rfl
theorem stk_succ (ds : List Nat) (i : Nat) : stk ds (i + 1) = (stk ds i).take (dep ds i - 1) ++ [i] := rfl

theorem Good.one_le {ds : List Nat} (G : Good ds) {i : Nat} (h : i < ds.length) : 1 ≤ dep ds i := by
  by_cases h0 : i = 0
  · subst h0
    rw [G.first]
    exact Nat.le_refl 1
  · have := G.low i (by omega) h
    omega

theorem Good.stk_len {ds : List Nat} (G : Good ds) : ∀ i, i < ds.length → (stk ds (i + 1)).length = dep ds i
  | 0, h => by
    show ((stk ds 0).take _ ++ [0]).length = _
    rw [G.first, stk_zero]
    rfl
  | i + 1, h => by
    have ih := G.stk_len i (by omega)
    have h1 := G.step (i + 1) (by omega) h
    have h2 := G.one_le h
    rw [stk_succ, List.length_append, List.length_take, ih, List.length_singleton]
    simp only [Nat.add_sub_cancel] at h1
    omega
theorem Good.stk_ge {ds : List Nat} (G : Good ds) {i : Nat} (h : i < ds.length) : dep ds i - 1 ≤ (stk ds i).length := by
  cases i with
  | zero =>
    rw [G.first]
    exact Nat.zero_le _
  | succ i =>
    rw [G.stk_len i (by omega)]
    have h1 := G.step (i + 1) (by omega) h
    simp only [Nat.add_sub_cancel] at h1
    omega
theorem Good.take_len {ds : List Nat} (G : Good ds) {i : Nat} (h : i < ds.length) : ((stk ds i).take (dep ds i - 1)).length = dep ds i - 1 := by
  rw [List.length_take]
  have := G.stk_ge h
  omega

theorem Good.stk_at {ds : List Nat} (G : Good ds) : ∀ i, i ≤ ds.length → ∀ k j, (stk ds i)[k]? = some j → j < i ∧ dep ds j = k + 1 ∧ ∀ m, j < m → m < i → k + 1 < dep ds m
  | 0, _, k, j, h => by
    rw [stk_zero] at h
    simp at h
  | i + 1, hi, k, j, h => by
    have hl := G.take_len (i := i) (by omega)
    have h1 := G.one_le (i := i) (by omega)
    rw [stk_succ] at h
    by_cases hk : k < dep ds i - 1
    · rw [List.getElem?_append_left (by omega), List.getElem?_take_of_lt hk] at h
      obtain ⟨a, b, c⟩ := G.stk_at i (by omega) k j h
      refine ⟨by omega, b, fun m hm hmi => ?_⟩
      by_cases e : m = i
      · subst e
        omega
      · exact c m hm (by omega)
    · rw [List.getElem?_append_right (by omega), hl] at h
      have hk2 : k - (dep ds i - 1) = 0 := by
        by_cases z : k - (dep ds i - 1) = 0
        · exact z
        · obtain ⟨q, hq⟩ : ∃ q, k - (dep ds i - 1) = q + 1 := ⟨k - (dep ds i - 1) - 1, by omega⟩
          rw [hq] at h
          simp at h
      rw [hk2] at h
      have e : i = j := by simpa using h
      subst e
      refine ⟨by omega, by omega, fun m hm hmi => by omega⟩

/-- the upper of a place -/
def upAt (ds : List Nat) (i : Nat) : Option Nat := if dep ds i ≤ 1 then none else (stk ds i)[dep ds i - 2]?
structure IsUp (ds : List Nat) (i u : Nat) : Prop where
  lt : u < i
  dep : dep ds u + 1 = dep ds i
  deep : ∀ m, u < m → m < i → BM.dep ds u < BM.dep ds m
theorem IsUp.uniq {ds : List Nat} {i u v : Nat} (a : IsUp ds i u) (b : IsUp ds i v) : u = v := by
  rcases Nat.lt_trichotomy u v with h | h | h
  · have := a.deep v h b.lt
    have := a.dep
    have := b.dep
    omega
  · exact h
  · have := b.deep u h a.lt
    have := a.dep
    have := b.dep
    omega
theorem Good.up_zero {ds : List Nat} (G : Good ds) : upAt ds 0 = none := by
  unfold upAt
  rw [if_pos (by rw [G.first]; exact Nat.le_refl 1)]
theorem Good.up_some {ds : List Nat} (G : Good ds) {i : Nat} (h0 : 0 < i) (h : i < ds.length) : ∃ u, upAt ds i = some u ∧ IsUp ds i u := by
  have h2 := G.low i h0 h
  have h3 := G.stk_ge h
  have hl : dep ds i - 2 < (stk ds i).length := by omega
  refine ⟨(stk ds i)[dep ds i - 2], ?_, ?_⟩
  · unfold upAt
    rw [if_neg (by omega), List.getElem?_eq_getElem hl]
  · obtain ⟨a, b, c⟩ := G.stk_at i (by omega) (dep ds i - 2) _ (List.getElem?_eq_getElem hl)
    exact ⟨a, by omega, fun m hm hmi => by
      have := c m hm hmi
      omega⟩
theorem Good.up_is {ds : List Nat} (G : Good ds) {i u : Nat} (h : i < ds.length) : upAt ds i = some u ↔ IsUp ds i u := by
  constructor
  · intro e
    by_cases h0 : i = 0
    · subst h0
      rw [G.up_zero] at e
      cases e
    · obtain ⟨v, e', k⟩ := G.up_some (by omega : 0 < i) h
      rw [e'] at e
      cases e
      exact k
  · intro k
    have h0 : 0 < i := Nat.lt_of_le_of_lt (Nat.zero_le _) k.lt
    obtain ⟨v, e', k'⟩ := G.up_some h0 h
    rw [e', k.uniq k']

/-- how many from the left -/
theorem takeWhile_len {α : Type} (p : α → Bool) : ∀ (l : List α), (∀ i x, i < (l.takeWhile p).length → l[i]? = some x → p x = true) ∧ (∀ x, l[(l.takeWhile p).length]? = some x → p x = false) ∧ (l.takeWhile p).length ≤ l.length
  | [] => ⟨fun i x h => by simp at h, fun x h => by simp at h, Nat.le_refl _⟩
  | a :: r => by
    obtain ⟨h1, h2, h3⟩ := takeWhile_len p r
    cases e : p a with
    | false =>
      rw [List.takeWhile_cons, e]
      refine ⟨fun i x h => by simp at h, fun x h => ?_, Nat.zero_le _⟩
      have z : a = x := by simpa using h
      rw [← z]
      exact e
    | true =>
      rw [List.takeWhile_cons, e]
      refine ⟨fun i x h hx => ?_, fun x h => ?_, ?_⟩
      · cases i with
        | zero =>
          have z : a = x := by simpa using hx
          rw [← z]
          exact e
        | succ i => exact h1 i x (by simpa using h) (by simpa using hx)
      · exact h2 x (by simpa using h)
      · simpa using h3

/-- the last place beneath -/
def endAt (ds : List Nat) (j : Nat) : Nat := j + ((ds.drop (j + 1)).takeWhile (fun d => decide (dep ds j < d))).length
theorem dep_some {ds : List Nat} {i : Nat} (h : i < ds.length) : ds[i]? = some (dep ds i) := by
  unfold dep
  rw [List.getD_eq_getElem?_getD, List.getElem?_eq_getElem h]
  rfl
theorem end_ge (ds : List Nat) (j : Nat) : j ≤ endAt ds j := Nat.le_add_right _ _
theorem end_lt {ds : List Nat} {j : Nat} (h : j < ds.length) : endAt ds j < ds.length := by
  have := (takeWhile_len (fun d => decide (dep ds j < d)) (ds.drop (j + 1))).2.2
  rw [List.length_drop] at this
  unfold endAt
  omega
theorem end_deep {ds : List Nat} {j m : Nat} (h : j < ds.length) (h1 : j < m) (h2 : m ≤ endAt ds j) : dep ds j < dep ds m := by
  have hm : m < ds.length := Nat.lt_of_le_of_lt h2 (end_lt h)
  have := (takeWhile_len (fun d => decide (dep ds j < d)) (ds.drop (j + 1))).1 (m - (j + 1)) (dep ds m) (by unfold endAt at h2; omega) (by
    rw [List.getElem?_drop, show j + 1 + (m - (j + 1)) = m by omega, dep_some hm])
  exact of_decide_eq_true this
theorem end_stop {ds : List Nat} {j : Nat} (h : endAt ds j + 1 < ds.length) : dep ds (endAt ds j + 1) ≤ dep ds j := by
  have := (takeWhile_len (fun d => decide (dep ds j < d)) (ds.drop (j + 1))).2.1 (dep ds (endAt ds j + 1)) (by
    rw [List.getElem?_drop]
    have e : j + 1 + ((ds.drop (j + 1)).takeWhile (fun d => decide (dep ds j < d))).length = endAt ds j + 1 := by
      unfold endAt
      omega
    rw [e, dep_some h])
  have := of_decide_eq_false this
  omega
theorem end_eq {ds : List Nat} {j e : Nat} (h : j < ds.length) (he : e < ds.length) (h1 : j ≤ e) (h2 : ∀ m, j < m → m ≤ e → dep ds j < dep ds m) (h3 : e + 1 < ds.length → dep ds (e + 1) ≤ dep ds j) : endAt ds j = e := by
  rcases Nat.lt_trichotomy (endAt ds j) e with q | q | q
  · have a := end_stop (ds := ds) (j := j) (by omega)
    have b := h2 (endAt ds j + 1) (by have := end_ge ds j; omega) (by omega)
    omega
  · exact q
  · have a := end_lt h
    have b := h3 (by omega)
    have c := end_deep h (show j < e + 1 by omega) (by omega)
    omega

/-- strictly beneath -/
def Anc (ds : List Nat) (i p : Nat) : Prop := i < p ∧ p ≤ endAt ds i
theorem anc_iff {ds : List Nat} {i p : Nat} (h : p < ds.length) : Anc ds i p ↔ i < p ∧ ∀ m, i < m → m ≤ p → dep ds i < dep ds m := by
  constructor
  · rintro ⟨a, b⟩
    exact ⟨a, fun m hm hmp => end_deep (by omega) hm (by omega)⟩
  · rintro ⟨a, b⟩
    refine ⟨a, ?_⟩
    rcases Nat.lt_or_ge (endAt ds i) p with q | q
    · have c := end_stop (ds := ds) (j := i) (by omega)
      have d := b (endAt ds i + 1) (by have := end_ge ds i; omega) (by omega)
      omega
    · exact q
theorem Good.anc_up {ds : List Nat} (G : Good ds) {i p : Nat} (h : p < ds.length) : Anc ds i p ↔ ∃ u, upAt ds p = some u ∧ (i = u ∨ Anc ds i u) := by
  constructor
  · intro a
    have ha := (anc_iff h).mp a
    obtain ⟨u, e, k⟩ := G.up_some (show 0 < p by have := a.1; omega) h
    refine ⟨u, e, ?_⟩
    have h1 := k.lt
    have h2 := k.dep
    rcases Nat.lt_trichotomy i u with q | q | q
    · right
      exact (anc_iff (by omega)).mpr ⟨q, fun m hm hmu => ha.2 m hm (by omega)⟩
    · exact .inl q
    · have h3 := k.deep i q a.1
      have h4 := ha.2 p a.1 (Nat.le_refl _)
      omega
  · rintro ⟨u, e, q⟩
    have k := (G.up_is h).mp e
    have h1 := k.lt
    have h2 := k.dep
    rcases q with rfl | q
    · refine (anc_iff h).mpr ⟨h1, fun m hm hmp => ?_⟩
      by_cases z : m = p
      · subst z
        omega
      · exact k.deep m hm (by omega)
    · have hq := (anc_iff (show u < ds.length by omega)).mp q
      have h3 := hq.2 u q.1 (Nat.le_refl _)
      refine (anc_iff h).mpr ⟨by have := q.1; omega, fun m hm hmp => ?_⟩
      rcases Nat.lt_trichotomy m u with r | r | r
      · exact hq.2 m hm (by omega)
      · subst r
        exact h3
      · by_cases z : m = p
        · subst z
          omega
        · have := k.deep m r (by omega)
          omega
theorem Good.up_anc {ds : List Nat} (G : Good ds) {i p : Nat} (h : p < ds.length) (e : upAt ds p = some i) : Anc ds i p := (G.anc_up h).mpr ⟨i, e, .inl rfl⟩
theorem Good.up_lt {ds : List Nat} (G : Good ds) {i u : Nat} (h : i < ds.length) (e : upAt ds i = some u) : u < i := ((G.up_is h).mp e).lt

/-- straight beneath, anywhere beneath -/
def Rel (ds : List Nat) (any : Bool) (i p : Nat) : Prop := if any = true then Anc ds i p else upAt ds p = some i
theorem rel_any {ds : List Nat} {i p : Nat} : Rel ds true i p ↔ Anc ds i p := by
  unfold Rel
  rw [if_pos rfl]
theorem rel_str {ds : List Nat} {i p : Nat} : Rel ds false i p ↔ upAt ds p = some i := by
  unfold Rel
  rw [if_neg Bool.false_ne_true]
theorem Good.rel_lt {ds : List Nat} (G : Good ds) {any : Bool} {i p : Nat} (h : p < ds.length) (r : Rel ds any i p) : i < p := by
  cases any with
  | true => exact (rel_any.mp r).1
  | false => exact G.up_lt h (rel_str.mp r)

/-! ### tables -/
variable {α : Type}
structure QT (α : Type) where
  n : Nat
  lab : Nat → α
  way : Nat → Bool
  up : Nat → Option Nat
structure QT.Ok (Q : QT α) : Prop where
  pos : 0 < Q.n
  top : Q.up 0 = none
  some : ∀ i, 0 < i → i < Q.n → ∃ u, Q.up i = some u ∧ u < i
structure DT (α : Type) where
  n : Nat
  lab : Nat → α
  rel : Bool → Nat → Nat → Prop
theorem QT.Ok.lt {Q : QT α} (O : Q.Ok) {i u : Nat} (h : i < Q.n) (e : Q.up i = Option.some u) : u < i := by
  by_cases h0 : i = 0
  · subst h0
    rw [O.top] at e
    cases e
  · obtain ⟨v, e', k⟩ := O.some i (by omega) h
    rw [e'] at e
    cases e
    exact k

inductive Down (D : DT α) (Q : QT α) : Nat → Nat → Prop where
  | mk (s p : Nat) (f : Nat → Nat) : p < D.n → D.lab p = Q.lab s → (∀ l, l < Q.n → Q.up l = some s → D.rel (Q.way l) p (f l)) → (∀ l, l < Q.n → Q.up l = some s → Down D Q l (f l)) → Down D Q s p
inductive Full (D : DT α) (Q : QT α) (root : Nat → Prop) : Nat → Nat → Prop where
  | root (p : Nat) : Down D Q 0 p → root p → Full D Q root 0 p
  | step (s u p q : Nat) : s < Q.n → Q.up s = some u → Full D Q root u q → D.rel (Q.way s) q p → Down D Q s p → Full D Q root s p

theorem down_iff {D : DT α} {Q : QT α} {s p : Nat} : Down D Q s p ↔ p < D.n ∧ D.lab p = Q.lab s ∧ ∀ l, l < Q.n → Q.up l = some s → ∃ q, D.rel (Q.way l) p q ∧ Down D Q l q := by
  constructor
  · intro h
    cases h with
    | mk _ _ f a b c d => exact ⟨a, b, fun l hl e => ⟨f l, c l hl e, d l hl e⟩⟩
  · rintro ⟨a, b, c⟩
    have : ∀ l, ∃ q, l < Q.n → Q.up l = some s → D.rel (Q.way l) p q ∧ Down D Q l q := fun l => by
      by_cases h : l < Q.n ∧ Q.up l = some s
      · obtain ⟨q, hq⟩ := c l h.1 h.2
        exact ⟨q, fun _ _ => hq⟩
      · exact ⟨0, fun h1 h2 => absurd ⟨h1, h2⟩ h⟩
    exact .mk s p (fun l => Classical.choose (this l)) a b (fun l h1 h2 => (Classical.choose_spec (this l) h1 h2).1) (fun l h1 h2 => (Classical.choose_spec (this l) h1 h2).2)
theorem Down.lt {D : DT α} {Q : QT α} {s p : Nat} (h : Down D Q s p) : p < D.n := (down_iff.mp h).1
theorem Down.lab {D : DT α} {Q : QT α} {s p : Nat} (h : Down D Q s p) : D.lab p = Q.lab s := (down_iff.mp h).2.1
theorem full_zero {D : DT α} {Q : QT α} (O : Q.Ok) {root : Nat → Prop} {p : Nat} : Full D Q root 0 p ↔ Down D Q 0 p ∧ root p := by
  constructor
  · intro h
    cases h with
    | root _ a b => exact ⟨a, b⟩
    | step _ u _ q a b => rw [O.top] at b; cases b
  · rintro ⟨a, b⟩
    exact .root p a b
theorem full_step {D : DT α} {Q : QT α} (O : Q.Ok) {root : Nat → Prop} {s u p : Nat} (hs : s < Q.n) (e : Q.up s = some u) : Full D Q root s p ↔ Down D Q s p ∧ ∃ q, Full D Q root u q ∧ D.rel (Q.way s) q p := by
  constructor
  · intro h
    cases h with
    | root _ a b => rw [O.top] at e; cases e
    | step _ v _ q a b c d f =>
      rw [b] at e
      cases e
      exact ⟨f, q, c, d⟩
  · rintro ⟨a, q, b, c⟩
    exact .step s u p q hs e b c a
theorem Full.lt {D : DT α} {Q : QT α} {root : Nat → Prop} {s p : Nat} (h : Full D Q root s p) : p < D.n := by
  cases h with
  | root _ a _ => exact a.lt
  | step _ _ _ _ _ _ _ _ a => exact a.lt

/-! ### matches -/
structure Mat (D : DT α) (Q : QT α) (m : Nat → Nat) : Prop where
  lt : ∀ i, i < Q.n → m i < D.n
  lab : ∀ i, i < Q.n → D.lab (m i) = Q.lab i
  rel : ∀ i u, i < Q.n → Q.up i = some u → D.rel (Q.way i) (m u) (m i)
theorem Mat.down {D : DT α} {Q : QT α} {m : Nat → Nat} (O : Q.Ok) (M : Mat D Q m) : ∀ k i, i < Q.n → Q.n - i ≤ k → Down D Q i (m i)
  | 0, i, h, hk => by omega
  | k + 1, i, h, hk => down_iff.mpr ⟨M.lt i h, M.lab i h, fun l hl e => ⟨m l, M.rel l i hl e, M.down O k l hl (by have := O.lt hl e; omega)⟩⟩
/-- a part of a match: the steps below k -/
structure Pre (D : DT α) (Q : QT α) (k : Nat) (m : Nat → Nat) : Prop where
  dn : ∀ i, i < k → Down D Q i (m i)
  rel : ∀ i u, i < k → Q.up i = some u → D.rel (Q.way i) (m u) (m i)
theorem Pre.mat {D : DT α} {Q : QT α} {m : Nat → Nat} (h : Pre D Q Q.n m) : Mat D Q m :=
  ⟨fun i hi => (h.dn i hi).lt, fun i hi => (h.dn i hi).lab, fun i u hi e => h.rel i u hi e⟩
/-- one step further, its part given or sought -/
theorem Pre.next {D : DT α} {Q : QT α} {k : Nat} {m : Nat → Nat} (O : Q.Ok) (h : Pre D Q k m) (hk : k < Q.n) (q : Nat) (hq : Down D Q k q) (hr : ∀ u, Q.up k = some u → D.rel (Q.way k) (m u) q) : Pre D Q (k + 1) (fun i => if i = k then q else m i) := by
  refine ⟨fun i hi => ?_, fun i u hi e => ?_⟩
  · by_cases z : i = k
    · subst z
      simp only [if_true]
      exact hq
    · simp only [if_neg z]
      exact h.dn i (by omega)
  · have hu := O.lt (by omega : i < Q.n) e
    by_cases z : i = k
    · subst z
      simp only [if_true, if_neg (show ¬ u = i by omega)]
      exact hr u e
    · simp only [if_neg z, if_neg (show ¬ u = k by omega)]
      exact h.rel i u (by omega) e
theorem Pre.seek {D : DT α} {Q : QT α} {k : Nat} {m : Nat → Nat} (O : Q.Ok) (h : Pre D Q k m) (h0 : 0 < k) (hk : k < Q.n) : ∃ q, Pre D Q (k + 1) (fun i => if i = k then q else m i) := by
  obtain ⟨u, e, hu⟩ := O.some k h0 hk
  obtain ⟨q, h1, h2⟩ := (down_iff.mp (h.dn u hu)).2.2 k hk e
  exact ⟨q, h.next O hk q h2 fun v ev => by rw [e] at ev; cases ev; exact h1⟩
/-- to the end, the steps below k as they are -/
theorem Pre.rest {D : DT α} {Q : QT α} (O : Q.Ok) : ∀ (d k : Nat) (m : Nat → Nat), Q.n - k ≤ d → Pre D Q k m → 0 < k → k ≤ Q.n → ∃ m', Pre D Q Q.n m' ∧ ∀ i, i < k → m' i = m i
  | 0, k, m, hd, h, h0, hk => ⟨m, by rw [show Q.n = k by omega]; exact h, fun _ _ => rfl⟩
  | d + 1, k, m, hd, h, h0, hk => by
    by_cases e : k = Q.n
    · exact ⟨m, by rw [← e]; exact h, fun _ _ => rfl⟩
    · obtain ⟨q, hq⟩ := h.seek O h0 (by omega)
      obtain ⟨m', h1, h2⟩ := Pre.rest O d (k + 1) _ (by omega) hq (by omega) (by omega)
      exact ⟨m', h1, fun i hi => by rw [h2 i (by omega), if_neg (by omega)]⟩
theorem full_mat {D : DT α} {Q : QT α} (O : Q.Ok) {root : Nat → Prop} : ∀ (s p : Nat), s < Q.n → (Full D Q root s p ↔ ∃ m, Mat D Q m ∧ root (m 0) ∧ m s = p) := by
  intro s
  induction s using Nat.strongRecOn with
  | _ s ih =>
    intro p hs
    constructor
    · intro h
      by_cases h0 : s = 0
      · subst h0
        obtain ⟨a, b⟩ := (full_zero O).mp h
        have p1 : Pre D Q 1 (fun _ => p) := ⟨fun i hi => by
            have z : i = 0 := by omega
            subst z
            exact a, fun i u hi e => by
            have z : i = 0 := by omega
            subst z
            rw [O.top] at e
            cases e⟩
        obtain ⟨m, h1, h2⟩ := Pre.rest O Q.n 1 _ (by omega) p1 (by omega) O.pos
        exact ⟨m, h1.mat, by rw [h2 0 (by omega)]; exact b, h2 0 (by omega)⟩
      · obtain ⟨u, e, hu⟩ := O.some s (by omega) hs
        obtain ⟨a, q, b, c⟩ := (full_step O hs e).mp h
        obtain ⟨m, M, hr, hq⟩ := (ih u hu q (by omega)).mp b
        have ps : Pre D Q s m := ⟨fun i hi => M.down O Q.n i (by omega) (by omega), fun i v hi ev => M.rel i v (by omega) ev⟩
        have pn := ps.next O hs p a fun v ev => by
          rw [e] at ev
          cases ev
          rw [hq]
          exact c
        obtain ⟨m', h1, h2⟩ := Pre.rest O Q.n (s + 1) _ (by omega) pn (by omega) hs
        refine ⟨m', h1.mat, ?_, ?_⟩
        · rw [h2 0 (by omega), if_neg (by omega)]
          exact hr
        · rw [h2 s (by omega), if_pos rfl]
    · rintro ⟨m, M, hr, rfl⟩
      by_cases h0 : s = 0
      · subst h0
        exact (full_zero O).mpr ⟨M.down O Q.n 0 hs (by omega), hr⟩
      · obtain ⟨u, e, hu⟩ := O.some s (by omega) hs
        exact (full_step O hs e).mpr ⟨M.down O Q.n s hs (by omega), m u, (ih u hu (m u) (by omega)).mpr ⟨m, M, hr, rfl⟩, M.rel s u hs e⟩

/-! ### laid together -/
def e1 (b r i : Nat) : Nat := if i < b then i else i + r
def e2 (w b j : Nat) : Nat := if j = 0 then w else b + j - 1
structure Laid (V R L : QT α) (w b : Nat) : Prop where
  wb : w < b
  bn : b ≤ V.n
  rn : 0 < R.n
  n : L.n = V.n + (R.n - 1)
  lab1 : ∀ i, i < V.n → L.lab (e1 b (R.n - 1) i) = V.lab i
  way1 : ∀ i, i < V.n → L.way (e1 b (R.n - 1) i) = V.way i
  up1 : ∀ i, i < V.n → L.up (e1 b (R.n - 1) i) = (V.up i).map (e1 b (R.n - 1))
  lab0 : R.lab 0 = V.lab w
  lab2 : ∀ j, 0 < j → j < R.n → L.lab (e2 w b j) = R.lab j
  way2 : ∀ j, 0 < j → j < R.n → L.way (e2 w b j) = R.way j
  up2 : ∀ j, 0 < j → j < R.n → L.up (e2 w b j) = (R.up j).map (e2 w b)
theorem Laid.ok {V R L : QT α} {w b : Nat} (A : Laid V R L w b) (OV : V.Ok) (OR : R.Ok) : L.Ok := by
  have h1 := A.wb
  have h2 := A.bn
  have h3 := A.rn
  have h4 := A.n
  have h5 := OV.pos
  refine ⟨by omega, ?_, fun k h0 hk => ?_⟩
  · have := A.up1 0 h5
    rw [OV.top] at this
    simpa [e1, show (0 < b) by omega] using this
  · by_cases c1 : k < b
    · obtain ⟨u, e, hu⟩ := OV.some k h0 (by omega)
      refine ⟨u, ?_, hu⟩
      have := A.up1 k (by omega)
      rw [e] at this
      simpa [e1, c1, show u < b by omega] using this
    · by_cases c2 : k < b + (R.n - 1)
      · obtain ⟨u, e, hu⟩ := OR.some (k - b + 1) (by omega) (by omega)
        have := A.up2 (k - b + 1) (by omega) (by omega)
        rw [e] at this
        have ek : e2 w b (k - b + 1) = k := by
          unfold e2
          rw [if_neg (by omega)]
          omega
        rw [ek] at this
        refine ⟨e2 w b u, by simpa using this, ?_⟩
        unfold e2
        split <;> omega
      · obtain ⟨u, e, hu⟩ := OV.some (k - (R.n - 1)) (by omega) (by omega)
        have := A.up1 (k - (R.n - 1)) (by omega)
        rw [e] at this
        have ek : e1 b (R.n - 1) (k - (R.n - 1)) = k := by
          unfold e1
          rw [if_neg (by omega)]
          omega
        rw [ek] at this
        refine ⟨e1 b (R.n - 1) u, by simpa using this, ?_⟩
        unfold e1
        split <;> omega
theorem Laid.full {D : DT α} {V R L : QT α} {w b : Nat} (A : Laid V R L w b) (OV : V.Ok) (OR : R.Ok) {root : Nat → Prop} {g q : Nat} (hg : g < R.n) :
    Full D L root (e2 w b g) q ↔ ∃ p, Full D V root w p ∧ Full D R (fun x => x = p) g q := by
  have h1 := A.wb
  have h2 := A.bn
  have h3 := A.rn
  have h4 := A.n
  have OL := A.ok OV OR
  have hw : w < V.n := by omega
  have hL : e2 w b g < L.n := by
    unfold e2
    split <;> omega
  have e1w : e1 b (R.n - 1) w = w := by
    unfold e1
    rw [if_pos h1]
  have e1z : e1 b (R.n - 1) 0 = 0 := by
    unfold e1
    rw [if_pos (by omega)]
  have e1lt : ∀ i, i < V.n → e1 b (R.n - 1) i < L.n := fun i hi => by
    unfold e1
    split <;> omega
  have e2lt : ∀ i, i < R.n → e2 w b i < L.n := fun i hi => by
    unfold e2
    split <;> omega
  rw [full_mat OL _ _ hL]
  constructor
  · rintro ⟨m, M, hr, hq⟩
    refine ⟨m w, (full_mat OV w (m w) hw).mpr ⟨fun i => m (e1 b (R.n - 1) i), ⟨fun i hi => M.lt _ (e1lt i hi), fun i hi => ?_, fun i u hi e => ?_⟩, ?_, ?_⟩,
      (full_mat OR g q hg).mpr ⟨fun j => m (e2 w b j), ⟨fun i hi => M.lt _ (e2lt i hi), fun i hi => ?_, fun i u hi e => ?_⟩, ?_, hq⟩⟩
    · show D.lab (m (e1 b (R.n - 1) i)) = V.lab i
      rw [M.lab _ (e1lt i hi), A.lab1 i hi]
    · show D.rel (V.way i) (m (e1 b (R.n - 1) u)) (m (e1 b (R.n - 1) i))
      rw [← A.way1 i hi]
      exact M.rel _ _ (e1lt i hi) (by rw [A.up1 i hi, e]; rfl)
    · show root (m (e1 b (R.n - 1) 0))
      rw [e1z]
      exact hr
    · show m (e1 b (R.n - 1) w) = m w
      rw [e1w]
    · show D.lab (m (e2 w b i)) = R.lab i
      by_cases z : i = 0
      · subst z
        show D.lab (m (e2 w b 0)) = R.lab 0
        have ew : e2 w b 0 = w := rfl
        rw [ew, A.lab0, ← A.lab1 w hw, e1w]
        exact M.lab w (by omega)
      · rw [M.lab _ (e2lt i hi), A.lab2 i (by omega) hi]
    · show D.rel (R.way i) (m (e2 w b u)) (m (e2 w b i))
      have z : 0 < i := by
        have := OR.lt hi e
        omega
      rw [← A.way2 i z hi]
      exact M.rel _ _ (e2lt i hi) (by rw [A.up2 i z hi, e]; rfl)
    · rfl
  · rintro ⟨p, hV, hR⟩
    obtain ⟨m1, M1, r1, q1⟩ := (full_mat OV w p hw).mp hV
    obtain ⟨m2, M2, r2, q2⟩ := (full_mat OR g q hg).mp hR
    let m : Nat → Nat := fun k => if k < b then m1 k else if k < b + (R.n - 1) then m2 (k - b + 1) else m1 (k - (R.n - 1))
    have mA : ∀ i, i < V.n → m (e1 b (R.n - 1) i) = m1 i := fun i hi => by
      show (if e1 b (R.n - 1) i < b then m1 (e1 b (R.n - 1) i) else if e1 b (R.n - 1) i < b + (R.n - 1) then m2 (e1 b (R.n - 1) i - b + 1) else m1 (e1 b (R.n - 1) i - (R.n - 1))) = m1 i
      unfold e1
      by_cases c : i < b
      · rw [if_pos c, if_pos c]
      · rw [if_neg c, if_neg (by omega), if_neg (by omega), show i + (R.n - 1) - (R.n - 1) = i by omega]
    have mB : ∀ j, j < R.n → m (e2 w b j) = m2 j := fun j hj => by
      by_cases z : j = 0
      · subst z
        have ew : e2 w b 0 = w := rfl
        have := mA w hw
        rw [e1w] at this
        rw [ew, this, q1, r2]
      · show (if e2 w b j < b then m1 (e2 w b j) else if e2 w b j < b + (R.n - 1) then m2 (e2 w b j - b + 1) else m1 (e2 w b j - (R.n - 1))) = m2 j
        unfold e2
        rw [if_neg z, if_neg (by omega), if_pos (by omega), show b + j - 1 - b + 1 = j by omega]
    have split : ∀ k, k < L.n → (∃ i, i < V.n ∧ k = e1 b (R.n - 1) i) ∨ ∃ j, 0 < j ∧ j < R.n ∧ k = e2 w b j := fun k hk => by
      by_cases c1 : k < b
      · exact .inl ⟨k, by omega, by unfold e1; rw [if_pos c1]⟩
      · by_cases c2 : k < b + (R.n - 1)
        · exact .inr ⟨k - b + 1, by omega, by omega, by unfold e2; rw [if_neg (by omega)]; omega⟩
        · exact .inl ⟨k - (R.n - 1), by omega, by unfold e1; rw [if_neg (by omega)]; omega⟩
    refine ⟨m, ⟨fun k hk => ?_, fun k hk => ?_, fun k u hk e => ?_⟩, ?_, ?_⟩
    · rcases split k hk with ⟨i, hi, rfl⟩ | ⟨j, h0, hj, rfl⟩
      · rw [mA i hi]
        exact M1.lt i hi
      · rw [mB j hj]
        exact M2.lt j hj
    · rcases split k hk with ⟨i, hi, rfl⟩ | ⟨j, h0, hj, rfl⟩
      · rw [mA i hi, A.lab1 i hi]
        exact M1.lab i hi
      · rw [mB j hj, A.lab2 j h0 hj]
        exact M2.lab j hj
    · rcases split k hk with ⟨i, hi, rfl⟩ | ⟨j, h0, hj, rfl⟩
      · rw [A.up1 i hi] at e
        cases ev : V.up i with
        | none => rw [ev] at e; cases e
        | some v =>
          rw [ev] at e
          have eu : e1 b (R.n - 1) v = u := by simpa using e
          have hv := OV.lt hi ev
          rw [← eu, A.way1 i hi, mA i hi, mA v (by omega)]
          exact M1.rel i v hi ev
      · rw [A.up2 j h0 hj] at e
        cases ev : R.up j with
        | none => rw [ev] at e; cases e
        | some v =>
          rw [ev] at e
          have eu : e2 w b v = u := by simpa using e
          have hv := OR.lt hj ev
          rw [← eu, A.way2 j h0 hj, mB j hj, mB v (by omega)]
          exact M2.rel j v hj ev
    · have := mA 0 OV.pos
      rw [e1z] at this
      rw [this]
      exact r1
    · rw [mB g hg]
      exact q2
/-! ### rows -/
abbrev DRow (α : Type) := α × Nat
abbrev QRow (α : Type) := Bool × α × Nat
def dds (rows : List (DRow α)) : List Nat := rows.map (·.2)
def qds (rows : List (QRow α)) : List Nat := rows.map (·.2.2)
def docT (rows : List (DRow α)) : DT (Option α) := ⟨rows.length, fun i => (rows[i]?).map (·.1), Rel (dds rows)⟩
def queT (rows : List (QRow α)) : QT (Option α) := ⟨rows.length, fun i => (rows[i]?).map (·.2.1), fun i => ((rows[i]?).map (·.1)).getD false, upAt (qds rows)⟩
theorem dds_len (rows : List (DRow α)) : (dds rows).length = rows.length := List.length_map _
theorem qds_len (rows : List (QRow α)) : (qds rows).length = rows.length := List.length_map _
theorem queT_ok {rows : List (QRow α)} (G : Good (qds rows)) : (queT rows).Ok := by
  refine ⟨?_, G.up_zero, fun i h0 h => ?_⟩
  · have := G.pos
    rw [qds_len] at this
    exact this
  · have h' : i < (qds rows).length := by
      rw [qds_len]
      exact h
    obtain ⟨u, e, k⟩ := G.up_some h0 h'
    exact ⟨u, e, k.lt⟩
theorem qds_dep {rows : List (QRow α)} {i : Nat} {r : QRow α} (h : rows[i]? = some r) : dep (qds rows) i = r.2.2 := by
  unfold dep qds
  rw [List.getD_eq_getElem?_getD, List.getElem?_map, h]
  rfl
theorem dds_dep {rows : List (DRow α)} {i : Nat} {r : DRow α} (h : rows[i]? = some r) : dep (dds rows) i = r.2 := by
  unfold dep dds
  rw [List.getD_eq_getElem?_getD, List.getElem?_map, h]
  rfl

def shift (k : Nat) (r : QRow α) : QRow α := (r.1, r.2.1, r.2.2 + k)
def behind (V : List (QRow α)) (w : Nat) : Nat := endAt (qds V) w + 1
def laidRows (V R : List (QRow α)) (w : Nat) : List (QRow α) := V.take (behind V w) ++ (R.drop 1).map (shift (dep (qds V) w - 1)) ++ V.drop (behind V w)
theorem behind_le {V : List (QRow α)} {w : Nat} (h : w < V.length) : behind V w ≤ V.length := by
  have := end_lt (ds := qds V) (j := w) (by rw [qds_len]; exact h)
  rw [qds_len] at this
  exact this
theorem behind_gt (V : List (QRow α)) (w : Nat) : w < behind V w := Nat.lt_succ_of_le (end_ge _ _)
theorem laid_len {V R : List (QRow α)} {w : Nat} (h : w < V.length) (hR : 0 < R.length) : (laidRows V R w).length = V.length + (R.length - 1) := by
  have := behind_le h
  unfold laidRows
  rw [List.length_append, List.length_append, List.length_take, List.length_map, List.length_drop, List.length_drop]
  omega
theorem laid_at {V R : List (QRow α)} {w : Nat} (h : w < V.length) (hR : 0 < R.length) (k : Nat) : (laidRows V R w)[k]? =
    if k < behind V w then V[k]? else if k < behind V w + (R.length - 1) then (R[k - behind V w + 1]?).map (shift (dep (qds V) w - 1)) else V[k - (R.length - 1)]? := by
  have hb := behind_le h
  have ht : (V.take (behind V w)).length = behind V w := by
    rw [List.length_take]
    omega
  have hm : ((R.drop 1).map (shift (dep (qds V) w - 1))).length = R.length - 1 := by
    rw [List.length_map, List.length_drop]
  unfold laidRows
  rw [List.append_assoc]
  by_cases c1 : k < behind V w
  · rw [if_pos c1, List.getElem?_append_left (by rw [ht]; exact c1), List.getElem?_take_of_lt c1]
  · rw [if_neg c1, List.getElem?_append_right (by rw [ht]; omega), ht]
    by_cases c2 : k < behind V w + (R.length - 1)
    · rw [if_pos c2, List.getElem?_append_left (by rw [hm]; omega), List.getElem?_map, List.getElem?_drop, Nat.add_comm 1]
    · rw [if_neg c2, List.getElem?_append_right (by rw [hm]; omega), hm, List.getElem?_drop]
      congr 1
      omega
section
variable {V R : List (QRow α)} {w : Nat}
theorem laid_d1 (h : w < V.length) (hR : 0 < R.length) {k : Nat} (c : k < behind V w) : dep (qds (laidRows V R w)) k = dep (qds V) k := by
  have e := laid_at h hR k
  rw [if_pos c] at e
  have hk : k < V.length := Nat.lt_of_lt_of_le c (behind_le h)
  have hv : V[k]? = some V[k] := List.getElem?_eq_getElem hk
  rw [qds_dep (e.trans hv), qds_dep hv]
theorem laid_d2 (h : w < V.length) (hR : 0 < R.length) {j : Nat} (h0 : 0 < j) (c : j < R.length) : dep (qds (laidRows V R w)) (behind V w + j - 1) = dep (qds R) j + (dep (qds V) w - 1) := by
  have e := laid_at h hR (behind V w + j - 1)
  rw [if_neg (by omega), if_pos (by omega), show behind V w + j - 1 - behind V w + 1 = j by omega] at e
  have hv : R[j]? = some R[j] := List.getElem?_eq_getElem c
  rw [hv] at e
  rw [qds_dep e, qds_dep hv]
  rfl
theorem laid_d3 (h : w < V.length) (hR : 0 < R.length) {k : Nat} (c : behind V w ≤ k) (c2 : k < V.length) : dep (qds (laidRows V R w)) (k + (R.length - 1)) = dep (qds V) k := by
  have e := laid_at h hR (k + (R.length - 1))
  rw [if_neg (by omega), if_neg (by omega), show k + (R.length - 1) - (R.length - 1) = k by omega] at e
  have hv : V[k]? = some V[k] := List.getElem?_eq_getElem c2
  rw [qds_dep (e.trans hv), qds_dep hv]
theorem laid_good (GV : Good (qds V)) (GR : Good (qds R)) (h : w < V.length) : Good (qds (laidRows V R w)) := by
  have hR : 0 < R.length := by
    have := GR.pos
    rw [qds_len] at this
    exact this
  have hb := behind_le h
  have hw := behind_gt V w
  have hl := laid_len h hR
  have lV := qds_len V
  have lR := qds_len R
  have lL := qds_len (laidRows V R w)
  have w1 : 1 ≤ dep (qds V) w := GV.one_le (by rw [lV]; exact h)
  have wb : dep (qds V) w ≤ dep (qds V) (behind V w - 1) := by
    by_cases e : behind V w - 1 = w
    · rw [e]
      exact Nat.le_refl _
    · have := end_deep (ds := qds V) (j := w) (m := behind V w - 1) (by omega) (by omega) (by unfold behind; omega)
      omega
  have ws : behind V w < V.length → dep (qds V) (behind V w) ≤ dep (qds V) w := fun c => end_stop (ds := qds V) (j := w) (by rw [lV]; exact c)
  have two : ∀ i, 0 < i → i < (qds (laidRows V R w)).length → 2 ≤ dep (qds (laidRows V R w)) i ∧ dep (qds (laidRows V R w)) i ≤ dep (qds (laidRows V R w)) (i - 1) + 1 := fun i h0 hi => by
    rw [lL, hl] at hi
    by_cases c1 : i < behind V w
    · rw [laid_d1 h hR c1, laid_d1 h hR (show i - 1 < behind V w by omega)]
      exact ⟨GV.low i h0 (by omega), GV.step i h0 (by omega)⟩
    · by_cases c2 : i < behind V w + (R.length - 1)
      · obtain ⟨j, ej, hj0, hj⟩ : ∃ j, i = behind V w + j - 1 ∧ 0 < j ∧ j < R.length := ⟨i - behind V w + 1, by omega, by omega, by omega⟩
        have a := laid_d2 (w := w) h hR hj0 hj
        have b := GR.low j hj0 (by omega)
        have c := GR.step j hj0 (by omega)
        rw [ej, a]
        refine ⟨by omega, ?_⟩
        by_cases z : j = 1
        · subst z
          rw [show behind V w + 1 - 1 - 1 = behind V w - 1 by omega, laid_d1 h hR (show behind V w - 1 < behind V w by omega)]
          have := GR.first
          simp only [Nat.sub_self] at c
          omega
        · have d := laid_d2 (w := w) h hR (show 0 < j - 1 by omega) (show j - 1 < R.length by omega)
          rw [show behind V w + j - 1 - 1 = behind V w + (j - 1) - 1 by omega, d]
          omega
      · obtain ⟨k, ek, hk1, hk2⟩ : ∃ k, i = k + (R.length - 1) ∧ behind V w ≤ k ∧ k < V.length := ⟨i - (R.length - 1), by omega, by omega, by omega⟩
        have a := laid_d3 (w := w) h hR hk1 hk2
        have b := GV.low k (by omega) (by omega)
        have c := GV.step k (by omega) (by omega)
        rw [ek, a]
        refine ⟨b, ?_⟩
        by_cases z : k = behind V w
        · subst z
          have q := ws hk2
          by_cases r0 : R.length = 1
          · rw [show behind V w + (R.length - 1) - 1 = behind V w - 1 by omega, laid_d1 h hR (show behind V w - 1 < behind V w by omega)]
            exact c
          · have d := laid_d2 (w := w) h hR (show 0 < R.length - 1 by omega) (show R.length - 1 < R.length by omega)
            rw [d]
            have := GR.low (R.length - 1) (by omega) (by omega)
            omega
        · have d := laid_d3 (w := w) h hR (show behind V w ≤ k - 1 by omega) (show k - 1 < V.length by omega)
          rw [show k + (R.length - 1) - 1 = k - 1 + (R.length - 1) by omega, d]
          exact c
  refine ⟨by rw [lL, hl]; omega, ?_, fun i h0 hi => (two i h0 hi).1, fun i h0 hi => (two i h0 hi).2⟩
  rw [laid_d1 h hR (by omega)]
  exact GV.first
theorem laid_laid (GV : Good (qds V)) (GR : Good (qds R)) (h : w < V.length) (hlab : (queT R).lab 0 = (queT V).lab w) : Laid (queT V) (queT R) (queT (laidRows V R w)) w (behind V w) := by
  have hR : 0 < R.length := by
    have := GR.pos
    rw [qds_len] at this
    exact this
  have hb := behind_le h
  have hw := behind_gt V w
  have hl := laid_len h hR
  have lV := qds_len V
  have lR := qds_len R
  have lL := qds_len (laidRows V R w)
  have GL := laid_good GV GR h
  have ws : behind V w < V.length → dep (qds V) (behind V w) ≤ dep (qds V) w := fun c => end_stop (ds := qds V) (j := w) (by rw [lV]; exact c)
  have wd : ∀ m, w < m → m < behind V w → dep (qds V) w < dep (qds V) m := fun m h1 h2 => end_deep (ds := qds V) (by rw [lV]; exact h) h1 (by unfold behind at h2; omega)
  have w1 : 1 ≤ dep (qds V) w := GV.one_le (by rw [lV]; exact h)
  have at1 : ∀ i, i < V.length → (laidRows V R w)[e1 (behind V w) (R.length - 1) i]? = V[i]? := fun i hi => by
    rw [laid_at h hR]
    unfold e1
    by_cases c : i < behind V w
    · rw [if_pos c, if_pos c]
    · rw [if_neg c, if_neg (by omega), if_neg (by omega), show i + (R.length - 1) - (R.length - 1) = i by omega]
  have at2 : ∀ j, 0 < j → j < R.length → (laidRows V R w)[e2 w (behind V w) j]? = (R[j]?).map (shift (dep (qds V) w - 1)) := fun j h0 hj => by
    have ej : e2 w (behind V w) j = behind V w + j - 1 := by
      unfold e2
      rw [if_neg (by omega)]
    rw [ej, laid_at h hR, if_neg (by omega), if_pos (by omega), show behind V w + j - 1 - behind V w + 1 = j by omega]
  have d1 : ∀ i, i < V.length → dep (qds (laidRows V R w)) (e1 (behind V w) (R.length - 1) i) = dep (qds V) i := fun i hi => by
    unfold e1
    by_cases c : i < behind V w
    · rw [if_pos c]
      exact laid_d1 h hR c
    · rw [if_neg c]
      exact laid_d3 h hR (by omega) hi
  have dm : ∀ m, behind V w ≤ m → m < behind V w + (R.length - 1) → dep (qds V) w < dep (qds (laidRows V R w)) m := fun m h1 h2 => by
    have := laid_d2 (w := w) h hR (j := m - behind V w + 1) (by omega) (by omega)
    rw [show behind V w + (m - behind V w + 1) - 1 = m by omega] at this
    have b := GR.low (m - behind V w + 1) (by omega) (by omega)
    omega
  refine ⟨hw, hb, hR, hl, fun i hi => ?_, fun i hi => ?_, fun i hi => ?_, hlab, fun j h0 hj => ?_, fun j h0 hj => ?_, fun j h0 hj => ?_⟩
  · show ((laidRows V R w)[e1 (behind V w) (R.length - 1) i]?).map (·.2.1) = (V[i]?).map (·.2.1)
    rw [at1 i hi]
  · show (((laidRows V R w)[e1 (behind V w) (R.length - 1) i]?).map (·.1)).getD false = ((V[i]?).map (·.1)).getD false
    rw [at1 i hi]
  · show upAt (qds (laidRows V R w)) (e1 (behind V w) (R.length - 1) i) = (upAt (qds V) i).map (e1 (behind V w) (R.length - 1))
    have hi : i < V.length := hi
    have hiL : e1 (behind V w) (R.length - 1) i < (qds (laidRows V R w)).length := by
      rw [lL, hl]
      unfold e1
      split <;> omega
    by_cases z : i = 0
    · subst z
      rw [GV.up_zero]
      have : e1 (behind V w) (R.length - 1) 0 = 0 := by
        unfold e1
        rw [if_pos (by omega)]
      rw [this, GL.up_zero]
      rfl
    · obtain ⟨u, e, k⟩ := GV.up_some (show 0 < i by omega) (by rw [lV]; exact hi)
      rw [e]
      show _ = some (e1 (behind V w) (R.length - 1) u)
      have k1 := k.lt
      have k2 := k.dep
      have far : behind V w ≤ i → u < w ∨ behind V w ≤ u := fun hbi => by
        rcases Nat.lt_or_ge u w with q | q
        · exact .inl q
        · rcases Nat.lt_or_ge u (behind V w) with q2 | q2
          · exfalso
            have s := ws (by omega)
            have wu : dep (qds V) w ≤ dep (qds V) u := by
              by_cases z : u = w
              · rw [z]
                exact Nat.le_refl _
              · exact Nat.le_of_lt (wd u (by omega) q2)
            by_cases z : behind V w = i
            · rw [z] at s
              omega
            · have := k.deep (behind V w) q2 (by omega)
              omega
          · exact .inr q2
      refine (GL.up_is hiL).mpr ⟨?_, ?_, fun m hm hmi => ?_⟩
      · unfold e1
        split <;> split <;> omega
      · rw [d1 i hi, d1 u (by omega)]
        exact k2
      · rw [d1 u (by omega)]
        by_cases c1 : m < behind V w
        · rw [laid_d1 h hR c1]
          have hu : u < m := by
            unfold e1 at hm
            split at hm <;> omega
          refine k.deep m hu ?_
          unfold e1 at hmi
          split at hmi <;> omega
        · by_cases c2 : m < behind V w + (R.length - 1)
          · have hbi : behind V w ≤ i := by
              unfold e1 at hmi
              split at hmi <;> omega
            have hu : u < behind V w := by
              unfold e1 at hm
              split at hm <;> omega
            have huw : u < w := by
              rcases far hbi with q | q <;> omega
            have a := dm m (by omega) c2
            have b := k.deep w huw (by omega)
            omega
          · have hbi : behind V w ≤ i := by
              unfold e1 at hmi
              split at hmi <;> omega
            have hmV : m - (R.length - 1) < i := by
              unfold e1 at hmi
              split at hmi <;> omega
            have hum : u < m - (R.length - 1) := by
              unfold e1 at hm
              split at hm <;> omega
            have a := laid_d3 (w := w) h hR (k := m - (R.length - 1)) (by omega) (by omega)
            rw [show m - (R.length - 1) + (R.length - 1) = m by omega] at a
            rw [a]
            exact k.deep _ hum hmV
  · show ((laidRows V R w)[e2 w (behind V w) j]?).map (·.2.1) = (R[j]?).map (·.2.1)
    rw [at2 j h0 hj, Option.map_map]
    rfl
  · show (((laidRows V R w)[e2 w (behind V w) j]?).map (·.1)).getD false = ((R[j]?).map (·.1)).getD false
    rw [at2 j h0 hj, Option.map_map]
    rfl
  · show upAt (qds (laidRows V R w)) (e2 w (behind V w) j) = (upAt (qds R) j).map (e2 w (behind V w))
    have hj : j < R.length := hj
    have ej : e2 w (behind V w) j = behind V w + j - 1 := by
      unfold e2
      rw [if_neg (by omega)]
    obtain ⟨u, e, k⟩ := GR.up_some h0 (by rw [lR]; exact hj)
    rw [e, ej]
    show _ = some (e2 w (behind V w) u)
    have k1 := k.lt
    have k2 := k.dep
    have dj := laid_d2 (w := w) h hR h0 hj
    refine (GL.up_is (by rw [lL, hl]; omega)).mpr ?_
    by_cases z : u = 0
    · subst z
      have ew : e2 w (behind V w) 0 = w := rfl
      have f := GR.first
      rw [ew]
      refine ⟨by omega, ?_, fun m hm hmi => ?_⟩
      · rw [dj, laid_d1 h hR hw]
        omega
      · rw [laid_d1 h hR hw]
        by_cases c1 : m < behind V w
        · rw [laid_d1 h hR c1]
          exact wd m hm c1
        · exact dm m (by omega) (by omega)
    · have eu : e2 w (behind V w) u = behind V w + u - 1 := by
        unfold e2
        rw [if_neg z]
      have du := laid_d2 (w := w) h hR (show 0 < u by omega) (show u < R.length by omega)
      rw [eu]
      refine ⟨by omega, by rw [dj, du]; omega, fun m hm hmi => ?_⟩
      have a := laid_d2 (w := w) h hR (j := m - behind V w + 1) (by omega) (by omega)
      rw [show behind V w + (m - behind V w + 1) - 1 = m by omega] at a
      rw [a, du]
      have := k.deep (m - behind V w + 1) (by omega) (by omega)
      omega
end

/-! ### lists of places -/
noncomputable def yes (P : Prop) : Bool := @decide P (Classical.propDecidable P)
theorem yes_iff {P : Prop} : yes P = true ↔ P := by
  unfold yes
  exact @decide_eq_true_iff P (Classical.propDecidable P)
theorem yes_congr {P Q : Prop} (h : P ↔ Q) : yes P = yes Q := by rw [propext h]
theorem yes_eq {P : Prop} {b : Bool} (h : b = true ↔ P) : yes P = b := by
  cases b with
  | true => exact yes_iff.mpr (h.mp rfl)
  | false =>
    cases e : yes P with
    | false => rfl
    | true => exact absurd (h.mpr (yes_iff.mp e)) Bool.false_ne_true
noncomputable def tbl (N : Nat) (P : Nat → Prop) : List Nat := (List.range N).filter fun p => yes (P p)
theorem mem_tbl {N : Nat} {P : Nat → Prop} {p : Nat} : p ∈ tbl N P ↔ p < N ∧ P p := by
  unfold tbl
  rw [List.mem_filter, List.mem_range, yes_iff]
theorem tbl_lt {N : Nat} {P : Nat → Prop} : (tbl N P).Pairwise (· < ·) := List.Pairwise.filter _ List.pairwise_lt_range
theorem tbl_len {N : Nat} {P : Nat → Prop} : (tbl N P).length ≤ N := by
  have := List.length_filter_le (fun p => yes (P p)) (List.range N)
  rw [List.length_range] at this
  exact this
theorem tbl_ext {N : Nat} {P Q : Nat → Prop} (h : ∀ p, p < N → (P p ↔ Q p)) : tbl N P = tbl N Q := by
  unfold tbl
  refine List.filter_congr fun p hp => yes_congr (h p (List.mem_range.mp hp))
theorem tbl_filter {N : Nat} {P : Nat → Prop} (f : Nat → Bool) : (tbl N P).filter f = tbl N fun p => P p ∧ f p = true := by
  unfold tbl
  rw [List.filter_filter]
  refine List.filter_congr fun p _ => ?_
  refine (yes_eq ?_).symm
  rw [Bool.and_eq_true, yes_iff]
  exact And.comm
theorem sorted_eq : ∀ {l r : List Nat}, l.Pairwise (· < ·) → r.Pairwise (· < ·) → (∀ p, p ∈ l ↔ p ∈ r) → l = r
  | [], [], _, _, _ => rfl
  | [], b :: r, _, _, h => absurd ((h b).mpr List.mem_cons_self) (by simp)
  | a :: l, [], _, _, h => absurd ((h a).mp List.mem_cons_self) (by simp)
  | a :: l, b :: r, hl, hr, h => by
    obtain ⟨h1, h2⟩ := List.pairwise_cons.mp hl
    obtain ⟨h3, h4⟩ := List.pairwise_cons.mp hr
    have e : a = b := by
      rcases List.mem_cons.mp ((h a).mp List.mem_cons_self) with q | q
      · exact q
      · rcases List.mem_cons.mp ((h b).mpr List.mem_cons_self) with z | z
        · exact z.symm
        · have := h3 a q
          have := h1 b z
          omega
    subst e
    congr 1
    refine sorted_eq h2 h4 fun p => ⟨fun m => ?_, fun m => ?_⟩
    · rcases List.mem_cons.mp ((h p).mp (List.mem_cons_of_mem _ m)) with q | q
      · have := h1 p m
        omega
      · exact q
    · rcases List.mem_cons.mp ((h p).mpr (List.mem_cons_of_mem _ m)) with q | q
      · have := h3 p m
        omega
      · exact q
/-- what sorted hands back, of a list of places each once -/
def natInts (l : List Nat) : List Int := l.map fun (p : Nat) => (p : Int)
theorem ints_len (l : List Nat) : (natInts l).length = l.length := List.length_map _
theorem mem_ints {l : List Nat} {i : Int} : i ∈ natInts l ↔ ∃ p, p ∈ l ∧ (p : Int) = i := List.mem_map
theorem sorted_ints {ys : List Int} {ks : List Nat} {N : Nat} {P : Nat → Prop} (hp : ys.Perm (natInts ks)) (hs : ys.Pairwise (· ≤ ·)) (hn : ks.Nodup) (hm : ∀ p, p ∈ ks ↔ p < N ∧ P p) : ys = natInts (tbl N P) := by
  have ny : ∀ y ∈ ys, ∃ p, p ∈ ks ∧ (p : Int) = y := fun y hy => mem_ints.mp (hp.mem_iff.mp hy)
  have e : ys = natInts (ys.map Int.toNat) := by
    unfold natInts
    rw [List.map_map]
    have : ∀ y ∈ ys, ((fun p : Nat => (p : Int)) ∘ Int.toNat) y = y := fun y hy => by
      obtain ⟨p, _, rfl⟩ := ny y hy
      rfl
    rw [List.map_congr_left this, List.map_id']
  have nd : ys.Nodup := by
    refine hp.nodup_iff.mpr ?_
    unfold natInts
    unfold List.Nodup at hn ⊢
    rw [List.pairwise_map]
    exact hn.imp fun {a b} h q => h (Int.ofNat.inj q)
  have lt : ys.Pairwise (· < ·) := by
    unfold List.Nodup at nd
    exact (hs.and nd).imp fun {a b} h => by
      have := h.1
      have := h.2
      omega
  have key : ys.map Int.toNat = tbl N P := by
    refine sorted_eq ?_ tbl_lt fun p => ?_
    · rw [List.pairwise_map]
      refine List.Pairwise.imp_of_mem (fun {a b} ha hb h => ?_) lt
      obtain ⟨p, _, rfl⟩ := ny a ha
      obtain ⟨q, _, rfl⟩ := ny b hb
      simp only [Int.toNat_natCast]
      omega
    · rw [mem_tbl, ← hm p, List.mem_map]
      constructor
      · rintro ⟨y, hy, rfl⟩
        obtain ⟨q, hq, rfl⟩ := ny y hy
        exact hq
      · intro h
        exact ⟨(p : Int), hp.mem_iff.mpr (mem_ints.mpr ⟨p, h, rfl⟩), rfl⟩
  rw [e, key]
end BM
set_option Elab.async false
set_option linter.all false
set_option maxRecDepth 100000
set_option maxHeartbeats 4000000
/-! Two rules that the layer lacks: enumerate over a tuple, list(reversed(a list)). -/
namespace BL
open PySem PySem.Spec PyProof.Rows L2

/-! ### enumerate(a tuple) -/
section
variable {prog : Program} {w : World} {A : Around} {E : Value → Shared → Prop} {s : Shared}
theorem meets_enum1 {v : Value} {o : Obj} {H : Heap → Prop} (B : Begins v o H) :
    Meets (Builtin.«enumerate.__new__» ⟨[.type "enumerate", v], []⟩) (fun _ R s => H s.heap ∧
      R (.ok (.ret (.ref (s.heap.push o).objs.size))) { s with heap := (s.heap.push o).push { cls := .type "enumerate", data := .fields #[.none, .bool false, .ref s.heap.objs.size, rawInt 0, .none, .none] } }) :=
  .of_wp fun prog w A R s h => by
    obtain ⟨hp, g, d, tk, os⟩ := s; obtain ⟨h1, h⟩ := h
    have hsub := sub_enumerate
    have q1 : ∀ {A' : Around} {E : Value → Shared → Prop} {Q : Value → Shared → Prop}, Q (.ref hp.objs.size) ⟨hp.push o, g, d, tk, os⟩ → wpAny (model prog w) A' (pyIter v) Q E ⟨hp, g, d, tk, os⟩ :=
      fun q => B.iter prog w _ _ ⟨hp, g, d, tk, os⟩ _ h1 q
    wp_walk using q1
    refine wpAny_stack_any fun st => wpAny_pure ?_
    split
    · rename_i c _ _ _ _ _
      cases (c == Value.type "enumerate")
      · wp_walk using q1
        exact ⟨_, rfl, h⟩
      · wp_walk using q1
        exact ⟨_, rfl, h⟩
    · wp_walk using q1
      exact ⟨_, rfl, h⟩
theorem enum_begins1 {v : Value} {o : Obj} {H : Heap → Prop} {Q : Value → Shared → Prop} (B : Begins v o H) (h1 : H s.heap)
    (h : ∀ h', IsEnum h' (s.heap.objs.size + 1) s.heap.objs.size 0 .none → h'.get? s.heap.objs.size = some o → h'.objs.size = s.heap.objs.size + 2 →
      (∀ b o, s.heap.get? b = some o → h'.get? b = some o) → Q (.ref (s.heap.objs.size + 1)) { s with heap := h' }) :
    wpAny (model prog w) A (call (.type "enumerate") [v]) Q E s := by
  refine callType_new F.called_enumerate (by decide) (F.typeCall_enumerate_1 _) (F.newCall_enumerate_1 _) (fun obj => F.args_object_init_2 obj _) F.entry_enumerate_new
    (meets_enum1 B) ⟨h1, ?_⟩
  have hz : (s.heap.push o).objs.size = s.heap.objs.size + 1 := Heap.size_push ..
  show _ ∧ _
  rw [hz]
  have he : IsEnum ((s.heap.push o).push { cls := .type "enumerate", data := .fields #[.none, .bool false, .ref s.heap.objs.size, rawInt 0, .none, .none] }) (s.heap.objs.size + 1) s.heap.objs.size 0 .none := by
    have := Heap.get?_push_size (s.heap.push o) (o := { cls := .type "enumerate", data := .fields #[.none, .bool false, .ref s.heap.objs.size, rawInt 0, .none, .none] }) rfl
    rw [hz] at this; exact this
  refine ⟨⟨_, he, rfl⟩, h _ he (Heap.get?_push_of_some _ (Heap.get?_push_size _ B.free)) (by rw [Heap.size_push, hz]) fun b o x => Heap.get?_push_of_some _ (Heap.get?_push_of_some _ x)⟩
end
/-- the tuple at a, each item in a new pair -/
def IteT (K : PySem.W.Frag) (a : Addr) : It :=
  ⟨fun i H => ∃ (xs : List V) (x : V), SqT K H a xs ∧ xs[i]? = some x, fun i H v H' => ∃ T x, v = .ref T ∧ H T = none ∧ H' = upd H T (.tup [.int (i : Nat), x]) ∧ ∀ xs, SqT K H a xs → xs[i]? = some x, fun i H => ∃ xs : List V, SqT K H a xs ∧ xs.length ≤ i⟩
theorem turn_enumT {P : Program} {w : World} {K : PySem.W.Frag} {elts : List Expr} {kk : Nat} {tpos : Pos} (a e it : Addr) :
    Turn P w K (.Tuple elts kk tpos) (IteT K a) [e, it] e (fun i h => (∃ old, IsEnum h e it ((i : Nat) : Int) old) ∧ h.IsTupleIter it a i ∧ e ≠ it) where
  mem := by simp
  obj := fun i h st b hb => by
    obtain ⟨⟨old, he⟩, ⟨o, ho, hc, hd⟩, _⟩ := st
    have e' : b = e ∨ b = it := by simpa using hb
    rcases e' with z | z
    · rw [z]; exact ⟨_, he, fun v q => nomatch q⟩
    · rw [z]; exact ⟨o, ho, fun v q => by rw [hd] at q; cases q⟩
  keep := fun i h h' st k => let ⟨⟨old, he⟩, hi, hne⟩ := st; ⟨⟨old, k e (by simp) _ he⟩, hi.at fun o q => k it (by simp) o q, hne⟩
  item := by
    intro X hP hw hK hc i pins s σ H E I hf st hg
    subst hP hw hK
    obtain ⟨⟨old, he⟩, hit, hne⟩ := st
    obtain ⟨xs, x, hq, hx⟩ := hg
    obtain ⟨its, rv, p, hz⟩ := I.tuple hq
    obtain ⟨u, hu, ru⟩ := rv.get hx
    have hel : e < s.heap.objs.size := Heap.lt_size he
    have hil : it < s.heap.objs.size := by obtain ⟨_, q, _⟩ := hit; exact Heap.lt_size q
    have hia : a ≠ it := fun z => by
      obtain ⟨o1, e1, c1, _⟩ := hit
      obtain ⟨o2, e2, c2, _⟩ := id p
      rw [z, e1] at e2
      cases e2
      rw [c1] at c2
      injection c2 with z2
      exact absurd z2 (by decide)
    have hea : e ≠ a := fun z => by
      obtain ⟨o2, e2, c2, _⟩ := id p
      rw [← z, he] at e2
      cases e2
      injection c2 with z2
      exact absurd z2 (by decide)
    have hh : X.A.handled = none := I.ok.hd hc
    have hlt : i < its.toArray.size := by
      have := (List.getElem?_eq_some_iff.mp hu).1
      rw [List.size_toArray]
      exact this
    refine wpAny_pyNext_enum_itemD (Draws.tuple (prog := X.prog) (w := X.w) (A := X.A.in1) hh it a hia its.toArray) he ⟨hit, p⟩ hlt hne (by simp [hne, hea]) fun v h' tk hP ho hst hT hsz hk => ?_
    have ev : v = u := by
      have : its.toArray[i]? = some v := hP
      rw [List.getElem?_toArray, hu] at this
      exact (Option.some.inj this).symm
    subst ev
    obtain ⟨hit', _⟩ := hst
    refine ⟨_, rfl, wpAny_letOwnedTupleGo_enum (s := { s with heap := h', toks := tk + 1 }) ho fun h'' he' sb => ?_⟩
    have hT2 : h''.get? s.heap.objs.size = some { cls := .type "tuple", data := .seq #[.int i tk, v] } := (sb.2 _ (Nat.ne_of_gt hel)).trans hT
    have new : ObjOk X.prog X.w (upd H s.heap.objs.size (.tup [.int (i : Nat), x])) h'' s.heap.objs.size (.tup [.int (i : Nat), x]) :=
      ⟨by show 2 ≤ sizeLine; decide, [.int i tk, v], .cons ⟨_, rfl⟩ (.cons ru .nil), ⟨_, hT2, rfl, _, rfl⟩⟩
    have I1 : Inv X pins σ (upd H s.heap.objs.size (.tup [.int (i : Nat), x])) { s with heap := h'', toks := tk + 1 } :=
      I.turnedNew (ch := [e, it]) (fun b ob hb q => (sb.2 b (fun z => hb (by simp [z]))).trans (hk b ob (fun z => hb (by simp [z])) (fun z => hb (by simp [z])) q)) hf (Nat.le_refl _) new
    refine ⟨.ref s.heap.objs.size, _, I1, rfl, ⟨_, x, rfl, I.hok.fresh (Nat.le_refl _), rfl, fun ys hy => by rw [I.tuple_inj hy hq]; exact hx⟩, ⟨⟨v, ?_⟩, hit'.at fun o q => (sb.2 it (Ne.symm hne)).trans q, hne⟩, fun b hb => ?_⟩
    · have e1 : ((i + 1 : Nat) : Int) = (i : Int) + 1 := by omega
      rw [e1]; exact he'
    · have hb' : b < s.heap.objs.size := by
        have e' : b = e ∨ b = it := by simpa using hb
        rcases e' with z | z
        · rw [z]; exact hel
        · rw [z]; exact hil
      rw [upd_ne (Nat.ne_of_lt hb')]
      exact (hf b hb).1
  done := by
    intro X hP hw hK hc i pins s σ H E I hf st hg
    subst hP hw hK
    obtain ⟨⟨old, he⟩, hit, hne⟩ := st
    obtain ⟨xs, hq, hx⟩ := hg
    obtain ⟨its, rv, p, hz⟩ := I.tuple hq
    obtain ⟨f0, f1, f2, f3, f4, f5⟩ := hf it (by simp)
    have hl := rv.length
    have hia : a ≠ it := fun z => by
      obtain ⟨o1, e1, c1, _⟩ := hit
      obtain ⟨o2, e2, c2, _⟩ := id p
      rw [z, e1] at e2
      cases e2
      rw [c1] at c2
      injection c2 with z2
      exact absurd z2 (by decide)
    have hh : X.A.handled = none := I.ok.hd hc
    have hT : s.TypeIs (.ref e) "enumerate" := ⟨_, he, rfl⟩
    unfold pyNext
    refine wpAny_bind (wpAny_attempt (wpAny_callSpecial?_slot (name := Str.ofString "__next__") hT F.slot_enumerate_next
      (wpAny_call_entry F.slot_enumerate_next hT F.entry_enumerate_next ?_ (F.args_enumerate_next_1 _))))
    show wpAny _ _ (field (.ref e) 2 >>= _) _ _ _
    refine wpAny_bind (wpAny_field he rfl (x := .ref it) rfl ?_)
    refine wpAny_bind (wpAny_nextOf_tuple_end hh hit p (by rw [List.getElem?_toArray]; exact List.getElem?_eq_none_iff.mpr (by omega)) fun h' x he' hx' => ?_)
    obtain ⟨o, ho, hc⟩ := hx'
    refine wpAny_bind (wpAny_isInstance (T := "StopIteration") (b := true) ⟨o, ho, hc⟩ isSubtype_stop ?_)
    exact wpAny_pure ⟨rfl, I.turned (t' := s.toks) (fun b o hb q => he' b o hb q) f0 f1 f3 f4 f5⟩
  self := fun A i s Q E st h => let ⟨⟨_, he⟩, _⟩ := st; wpAny_pyIter_enum he h
def iEnumT (K : PySem.W.Frag) (ta : TA) : TI := fun σ H R => ta σ H fun vs H1 => ∃ a xs, vs = [.ref a] ∧ SqT K H1 a xs ∧ R (IteT K a) H1
theorem pi_enumT {X : Cx} {e : Expr} {ta : TA} {p pos tpos : Pos} {elts : List Expr} {kk : Nat} (hg : Gl X "enumerate") (hm : X.mg "enumerate" = none) (ha : PA X [e] ta) (hs : starEach [e] X.env = [(false, eval e X.env)] := by rfl) :
    PI X (.Tuple elts kk tpos) (.Call (.Name "enumerate" p) [e] [] pos) (iEnumT X.K ta) := by
  refine ⟨fun pins s σ H R I h => ?_⟩
  refine Call_ (ld_blt I hg hm boot_enumerate (PyProof.Rows.callWith_type1 (thn (ha.run pos pins s σ H _ I h) fun us s1 ⟨vs, H1, I1, r1, q1⟩ => ?_) hs rfl))
  obtain ⟨a, xs, ex, hq, q⟩ := q1
  subst ex
  cases r1 with
  | cons r rr =>
    cases rr
    cases r
    obtain ⟨its, rv, p', hz⟩ := I1.tuple hq
    refine enum_begins1 (begins_tuple a its.toArray) p' fun h' he hit hsz hk => wpAny_pyIter_enum he ?_
    have I2 : Inv X pins σ H1 { s1 with heap := h' } := I1.kept (t' := s1.toks) hk
    refine ⟨s1.heap.objs.size + 1, [s1.heap.objs.size + 1, s1.heap.objs.size], _, _, H1, rfl, I2, turn_enumT a (s1.heap.objs.size + 1) s1.heap.objs.size, ⟨⟨.none, he⟩, ⟨_, hit, rfl, rfl⟩, Nat.succ_ne_self _⟩, fun b hb => ?_, q⟩
    have e' : b = s1.heap.objs.size + 1 ∨ b = s1.heap.objs.size := by simpa using hb
    have hle : s1.heap.objs.size ≤ b := by
      rcases e' with z | z
      · rw [z]; exact Nat.le_add_right _ _
      · rw [z]; exact Nat.le_refl _
    exact I1.fpOk hle (I1.hok.fresh hle)

/-! ### list(reversed(a list)) -/
section
variable {prog : Program} {w : World} {A : Around} {E : Value → Shared → Prop} {s : Shared}
theorem extend_rev {it l : Addr} {items : Array Value} {R : Result → Shared → Prop} (hh : A.handled = none) (S : Addr) (hSi : S ≠ it) (hSl : S ≠ l) (res : Value) (c₀ : Nat) (hS : s.heap.get? S = some { cls := .type "list", data := .seq #[] c₀ })
    (hit : s.heap.IsRevIter it l ((items.size : Int) - 1)) (hl : s.heap.IsList l items) (hne : l ≠ it) (hn : items.size ≤ sizeLine)
    (hR : ∀ h' tk acc' c', (∀ b o, b ≠ S → b ≠ it → s.heap.get? b = some o → h'.get? b = some o) → h'.get? S = some { cls := .type "list", dict := none, data := .seq acc' c', slots := #[] } →
      ItemsOf (fun i v => items[items.size - 1 - i]? = some v) acc' items.size → R (.ok (.ret res)) { s with heap := h', toks := tk }) :
    wpAny (model prog w) A.in1 (Builtin.List.listExtendWith (.ref S) (.ref it) res)
      (fun fin s' => match fin with | .done f => R (.ok f) s' | .again c' => c'.quiet = true ∧ codeAny (model prog w) A c' R s') (fun e s' => R (.error e) s') s := by
  have W := (Walks.listRev (prog := prog) (w := w) (A := A.in1) hh it l hne items).toS
  have hSf : S ∉ [it, l] := by simp only [List.mem_cons, List.not_mem_nil, or_false, not_or]; exact ⟨hSi, hSl⟩
  have hT : s.TypeIs (.ref it) "list_reverseiterator" := Heap.IsRevIter.typeIs hit
  have h1 : Builtin.List.listSameRef (.ref S) (.ref it) = false := by simp [Builtin.List.listSameRef, hSi]
  unfold Builtin.List.listExtendWith
  refine wpAny_bind (wpAny_typeOf hT ?_)
  rw [if_neg (by rw [h1]; decide)]
  refine wpAny_bind (wpAny_pyIter_revIter hit ?_)
  refine wpAny_bind (wpAny_holding ?_)
  unfold Builtin.List.listLengthHint
  refine wpAny_bind (wpAny_specialOf hT RT.nolen_lri ?_)
  show wpAny _ A.in1 (specialOf (Value.ref it) (Str.ofString "__length_hint__") >>= _) _ _ _
  refine wpAny_bind (wpAny_specialOf hT RT.hint_lri ?_)
  generalize hid : ("list_reverseiterator.__length_hint__" : String) = id0
  wp_delta
  rw [show splitId id0 = some ("list_reverseiterator", "__length_hint__") from by subst hid; decide +kernel]
  subst hid
  refine wpAny_bind (wpAny_isInstance (b := true) hT (by rw [isSubtype_type]; kernel_rfl) ?_)
  refine wpAny_pure ?_
  rw [if_neg (by decide)]
  have e0 : ((items.size : Nat) : Int) - 1 - ((0 : Nat) : Int) = (items.size : Int) - 1 := by omega
  refine wpAny_pure ⟨plainId_quiet F.plain_extend_loop _, codeAny_extend_loopS W hn _ hSf _ items.size 0 _ _ _ rfl (Nat.zero_le _) ⟨Nat.zero_le _, by rw [e0]; exact hit, hl⟩ hS (ItemsOf.nil _) fun s' acc' c' hm hS' hacc => ?_⟩
  rw [Moved.eq_with hm]
  refine hR s'.heap s'.toks acc' c' (fun b o hb hi e => hm.heap b o (fun hmem => ?_) e) hS' hacc
  rcases List.mem_cons.mp hmem with e' | hmem
  · exact hb e'
  · exact hi (List.mem_singleton.mp hmem)
theorem call_list_rev {it l : Addr} {items : Array Value} {Q : Value → Shared → Prop} (hh : A.handled = none) (hit : s.heap.IsRevIter it l ((items.size : Int) - 1)) (hl : s.heap.IsList l items) (hne : l ≠ it) (hn : items.size ≤ sizeLine)
    (hQ : ∀ h' tk acc' c', (∀ b o, b ≠ it → s.heap.get? b = some o → h'.get? b = some o) →
      h'.get? s.heap.objs.size = some { cls := .type "list", dict := none, data := .seq acc' c', slots := #[] } → ItemsOf (fun i v => items[items.size - 1 - i]? = some v) acc' items.size → Q (.ref s.heap.objs.size) { s with heap := h', toks := tk }) :
    wpAny (model prog w) A (call (.type "list") [.ref it]) Q E s := by
  obtain ⟨oi, hoi, _⟩ := id hit
  obtain ⟨ol, hol, _⟩ := id hl
  have hSi : s.heap.objs.size ≠ it := Nat.ne_of_gt (Heap.lt_size hoi)
  have hSl : s.heap.objs.size ≠ l := Nat.ne_of_gt (Heap.lt_size hol)
  refine callType_codes (Q₁ := fun obj s₁ => obj = .ref s.heap.objs.size ∧ s₁ = { s with heap := s.heap.push { cls := .type "list", data := .seq #[] } }) F.called_list (F.typeCall_list_1 _) F.entry_list_init
    (code_list_new _ ⟨rfl, rfl⟩) fun obj s₁ h₁ => ?_
  obtain ⟨rfl, rfl⟩ := h₁
  have hS : (s.heap.push { cls := .type "list", data := .seq #[] }).get? s.heap.objs.size = some { cls := .type "list", data := .seq #[] } := Heap.get?_push_size _ rfl
  refine ⟨⟨_, hS, rfl⟩, F.args_list_init_2 _ _, ?_⟩
  show wpAny _ A.in1.in1 (do let old ← Builtin.List.listItems (.ref s.heap.objs.size); Builtin.List.listUpdate (.ref s.heap.objs.size) (fun _ => #[]); letGo old.toList.reverse; Builtin.List.listExtendWith (.ref s.heap.objs.size) (.ref it) .none) _ _ _
  refine wpAny_bind ?_
  unfold Builtin.List.listItems
  refine wpAny_bind (wpAny_seqItems hS rfl (wpAny_pure ?_))
  show wpAny _ A.in1.in1 (updateSeq s.heap.objs.size (fun _ => #[]) >>= fun _ => letGo (#[] : Array Value).toList.reverse >>= fun _ => Builtin.List.listExtendWith (.ref s.heap.objs.size) (.ref it) .none) _ _ _
  refine wpAny_bind (wpAny_updateSeq hS rfl ?_)
  have hS₂ := Heap.get?_update_self (Obj.mapSeq (fun _ => (#[] : Array Value))) hS rfl
  have oth : ∀ b o, b ≠ s.heap.objs.size → s.heap.get? b = some o → ((s.heap.push { cls := .type "list", data := .seq #[] }).update s.heap.objs.size (Obj.mapSeq (fun _ => (#[] : Array Value)))).get? b = some o :=
    fun b o hb e => (Heap.get?_update_other _ _ (Ne.symm hb)).trans (Heap.get?_push_of_some _ e)
  refine wpAny_bind (wpAny_letGo ?_)
  refine extend_rev (A := A.in1) hh s.heap.objs.size hSi hSl .none _ hS₂ (hit.at fun o e => oth it o (Ne.symm hSi) e) (hl.at fun o e => oth l o (Ne.symm hSl) e) hne hn fun h' tk acc' c' hk hS' hacc => ?_
  exact ⟨rfl, hQ h' tk acc' c' (fun b o hb e => hk b o (Nat.ne_of_lt (Heap.lt_size e)) hb (oth b o (Nat.ne_of_lt (Heap.lt_size e)) e)) hS' hacc⟩
end
/-- list(reversed(x)), x a list: a new list -/
def tListRev (K : PySem.W.Frag) (te : TE) : TE := fun σ H Q => te σ H fun v H1 => ∃ (a : Addr) (xs : List V), v = .ref a ∧ SqL K H1 a xs ∧ ∀ q, H1 q = none → Q (.ref q) (upd H1 q (.lst xs.reverse))
theorem pe_listRev {X : Cx} {e : Expr} {te : TE} {p p2 pos pos2 : Pos} (hc : X.calm = true) (hg : Gl X "list") (hm : X.mg "list" = none) (hg2 : Gl X "reversed") (hm2 : X.mg "reversed" = none) (he : PE X e te)
    (hs : starEach [e] X.env = (false, eval e X.env) :: starEach [] X.env := by rfl)
    (hs2 : starEach [.Call (.Name "reversed" p2) [e] [] pos2] X.env = (false, eval (.Call (.Name "reversed" p2) [e] [] pos2) X.env) :: starEach [] X.env := by rfl) :
    PE X (.Call (.Name "list" p) [.Call (.Name "reversed" p2) [e] [] pos2] [] pos) (tListRev X.K te) := by
  refine ⟨fun pins s σ H Q I h => ?_⟩
  refine Call_ (ld_blt I hg hm boot_list (PyProof.Rows.callWith_type1 (args_cons (Call_ (ld_blt I hg2 hm2 PyProof.Rows.boot_reversed (PyProof.Rows.callWith_type1 (args_cons (thn (he.run pins s σ H _ I h) fun u s1 ⟨v, H1, I1, r1, q1⟩ => args_nil ?_) hs) hs rfl))) hs2) hs2 rfl))
  obtain ⟨a, xs, ev, hq, q⟩ := q1
  subst ev
  obtain rfl : u = Value.ref a := r1
  obtain ⟨its, rv, p', hz⟩ := I1.list hq
  refine call_reversed_list p'.isList (args_nil ?_)
  have k0 : ∀ b o, s1.heap.get? b = some o → (s1.heap.push (revObj a ((its.toArray.size : Int) - 1))).get? b = some o := fun b o e => Heap.get?_push_of_some _ e
  have I2 : Inv X pins σ H1 { s1 with heap := s1.heap.push (revObj a ((its.toArray.size : Int) - 1)) } := I1.kept (t' := s1.toks) k0
  obtain ⟨f0, f1, f2, f3, f4, f5⟩ := I1.fpOk (H' := H1) (b := s1.heap.objs.size) (Nat.le_refl _) (I1.hok.fresh (Nat.le_refl _))
  have hl := p'.isList
  obtain ⟨ol, hol, _⟩ := id hl
  have hne : a ≠ s1.heap.objs.size := Nat.ne_of_lt (Heap.lt_size hol)
  have hn : its.toArray.size ≤ sizeLine := by rw [List.size_toArray, ← rv.length]; exact hz
  refine call_list_rev (s := { s1 with heap := s1.heap.push (revObj a ((its.toArray.size : Int) - 1)) }) (I1.ok.hd hc) ⟨_, Heap.get?_push_size _ rfl, rfl, rfl⟩ (hl.push _) hne hn fun h' tk acc c hk hS hi => ?_
  have hsz : (s1.heap.push (revObj a ((its.toArray.size : Int) - 1))).objs.size = s1.heap.objs.size + 1 := Heap.size_push ..
  have hS' : h'.get? (s1.heap.objs.size + 1) = some { cls := .type "list", dict := none, data := .seq acc c, slots := #[] } := by
    have : (Shared.heap { s1 with heap := s1.heap.push (revObj a ((its.toArray.size : Int) - 1)) }).objs.size = s1.heap.objs.size + 1 := hsz
    rw [← this]
    exact hS
  have I3 : Inv X pins σ H1 { s1 with heap := h', toks := tk } := I2.turned (t' := tk) (fun b o hb e => hk b o hb e) f0 f1 f3 f4 f5
  have hfr : H1 (s1.heap.objs.size + 1) = none := I1.hok.fresh (Nat.le_succ _)
  have hnew : ObjOk X.prog X.w (upd H1 (s1.heap.objs.size + 1) (.lst xs.reverse)) h' (s1.heap.objs.size + 1) (.lst xs.reverse) :=
    ⟨by rw [List.length_reverse]; exact hz, acc.toList, c, RT.vals_rev rv hi, by rw [Array.toArray_toList]; exact hS'⟩
  refine ⟨.ref (s1.heap.objs.size + 1), upd H1 (s1.heap.objs.size + 1) (.lst xs.reverse), ?_, by rw [show (Shared.heap { s1 with heap := s1.heap.push (revObj a ((its.toArray.size : Int) - 1)) }).objs.size = s1.heap.objs.size + 1 from hsz]; rfl, q _ hfr⟩
  refine I2.turnedNew (t' := tk) (ch := [s1.heap.objs.size]) (h' := h') (T := s1.heap.objs.size + 1) (ob := .lst xs.reverse) (fun b ob hb e => hk b ob (fun z => hb (by simp [z])) e) (fun b hb => ?_) (Nat.le_of_eq hsz) hnew
  have eb : b = s1.heap.objs.size := by simpa using hb
  rw [eb]
  exact ⟨f0, f1, f2, f3, f4, f5⟩
end BL
set_option Elab.async false
set_option linter.all false
set_option maxRecDepth 100000
set_option maxHeartbeats 4000000
/-! Short words for defs, methods, classes, with all that a call asks; what a reading evaluates to, further. -/
namespace BK
open PySem PySem.Spec PyProof.Rows L2 Evl BL

/-! ### a def of the top, a method, a class, with its promise -/
structure Fn (P : Program) (w : World) (K : PySem.W.Frag) (mg : Str → Option Value) (base : Heap) (x : Str) (k : Nat) (ps : List Str) (sp : Sp) : Prop where
  ex : ∃ (f : Addr) (fd : FuncData), FnOk P w K mg base CX0 k f fd ps sp ∧ mg x = some (.ref f) ∧ PySem.W.keepIn K (.ref f) = true ∧ Binds K fd ps []
structure Mt (P : Program) (w : World) (K : PySem.W.Frag) (mg : Str → Option Value) (base : Heap) (C : Addr) (m : Str) (k : Nat) (ps : List Str) (sp : Sp) : Prop where
  ex : ∃ (f : Addr) (fd : FuncData), FnOk P w K mg base CX0 k f fd ps sp ∧ Meth K C m f ∧ Binds K fd ps []
structure Ctor (P : Program) (w : World) (K : PySem.W.Frag) (mg : Str → Option Value) (base : Heap) (x : Str) (C : Addr) (k : Nat) (ps : List Str) (sp : Sp) : Prop where
  ex : ∃ (f : Addr) (fd : FuncData), FnOk P w K mg base CX0 k f fd ps sp ∧ Mk K C f ∧ mg x = some (.ref C) ∧ Binds K fd ps []
section
variable {X : Cx} {k : Nat} {C : Addr} {ps : List Str} {sp : Sp} {x m : Str} {p pos apos : Pos} {e o : Expr} {es : List Expr} {ta tb : TE} {t : TA}
theorem Fn.pe (F : Fn X.prog X.w X.K X.mg X.base x k ps sp) (hr : Room k X.A) (hg : Gl X x)
    (ha : PA X (e :: es) t) (hdb : (x == ("__debug__" : Str)) = false := by decide) (he : starEach (e :: es) X.env = (false, eval e X.env) :: starEach es X.env := by rfl) (hpl : (backTo pos (starEach es X.env)).any (·.1) = false := by rfl) :
    PE X (.Call (.Name x p) (e :: es) [] pos) (tCall sp [] E0 t) := by
  obtain ⟨f, fd, G, hm, hk, hb⟩ := F.ex
  exact pe_call G hr hg hm hk hb .nil pass0 ha hdb he hpl
theorem Mt.pe {pl : Sem Bool} (c : Cls X.K C) (F : Mt X.prog X.w X.K X.mg X.base C m k ps sp) (hr : Room k X.A) (he : PE X o ta) (ha : PA X (e :: es) t)
    (hst : starEach (e :: es) X.env = (false, eval e X.env) :: starEach es X.env := by rfl) (hpl : (backTo pos (starEach es X.env)).any (·.1) = false := by rfl)
    (ht : eval (.Call (.Attribute o m apos) (e :: es) [] pos) X.env = (do
      let ov ← eval o X.env
      standAt apos.atName
      let (f, first) ← holding [ov] (getMethod ov m pl)
      callWith pos f first (backTo pos (starEach (e :: es) X.env)) (backToKw pos (keywordEach [] X.env))) := by rfl) :
    PE X (.Call (.Attribute o m apos) (e :: es) [] pos) (tMeth C m sp [] E0 ta t) := by
  obtain ⟨f, fd, G, hm, hb⟩ := F.ex
  exact pe_meth he c hm G hr hb .nil pass0 ha hst hpl ht
theorem Mt.pe0 {pl : Sem Bool} (c : Cls X.K C) (F : Mt X.prog X.w X.K X.mg X.base C m k ps sp) (hr : Room k X.A) (he : PE X o ta)
    (ht : eval (.Call (.Attribute o m apos) [] [] pos) X.env = (do
      let ov ← eval o X.env
      standAt apos.atName
      let (f, first) ← holding [ov] (getMethod ov m pl)
      callWith pos f first (backTo pos (starEach [] X.env)) (backToKw pos (keywordEach [] X.env))) := by rfl) :
    PE X (.Call (.Attribute o m apos) [] [] pos) (tMeth C m sp [] E0 ta tNil) := by
  obtain ⟨f, fd, G, hm, hb⟩ := F.ex
  exact pe_meth0 he c hm G hr hb .nil pass0 ht
theorem Ctor.pe (F : Ctor X.prog X.w X.K X.mg X.base x C k ps sp) (hr : Room (k + 1) X.A) (hg : Gl X x)
    (ha : PA X (e :: es) t) (hdb : (x == ("__debug__" : Str)) = false := by decide) (he : starEach (e :: es) X.env = (false, eval e X.env) :: starEach es X.env := by rfl) (hpl : (backTo pos (starEach es X.env)).any (·.1) = false := by rfl) :
    PE X (.Call (.Name x p) (e :: es) [] pos) (tMake C sp [] E0 t) := by
  obtain ⟨f, fd, G, hm, hc, hb⟩ := F.ex
  exact pe_make hm G hr hg hc hb .nil pass0 ha hdb he hpl
/-- one of two readings -/
def tEither (t u : TE) : TE := fun σ H Q => t σ H Q ∨ u σ H Q
theorem pe_either {e : Expr} (h1 : PE X e ta) (h2 : PE X e tb) : PE X e (tEither ta tb) := ⟨fun pins s σ H Q I h => by
  rcases h with h | h
  · exact h1.run pins s σ H Q I h
  · exact h2.run pins s σ H Q I h⟩
end

/-! ### defs as the head finds them -/
structure GDef (K : PySem.W.Frag) (mg : Str → Option Value) (x : Str) (st : Stmt) : Prop where
  ex : ∃ (f : Addr) (fd : FuncData), Fun K x x st f fd ∧ mg x = some (.ref f)
structure MDef (K : PySem.W.Frag) (C : Addr) (m qual : Str) (st : Stmt) : Prop where
  ex : ∃ (f : Addr) (fd : FuncData), Fun K m qual st f fd ∧ Meth K C m f
section
variable {P : Program} {w : World} {K : PySem.W.Frag} {mg : Str → Option Value} {base : Heap} {x m qual : Str} {st : Stmt} {N ps : List Str} {k : Nat} {sp : Sp} {C : Addr}
theorem Fn.of (D : GDef K mg x st) (S : FnScope N ps (defScope st))
    (hb : ∀ (kV doc pm : Value) (an : Option Addr) (cdv ct : Value) (us : List Value), us.length = ps.length → bindArgs (PySem.W.fnOf x x (defArgs st) (defBody st) (defScope st) .none kV doc pm an cdv ct) ⟨us, []⟩ = pure (ps.zip us))
    (len : ∀ vs H Q E, sp vs H Q E → vs.length = ps.length)
    (hbody : ∀ (f : Addr) (cdv : Value) (A : Around) (outer : List Env) (s : Shared) (H : Hp) (vs : List V) (Q : VK) (E : XK), Room k (A.deeper (envOfC x (defScope st) s.heap.objs.size f cdv)) → sp vs H Q E →
      ∃ t, PSs (cxOf CX0 P w K mg base N x (defScope st) f cdv A outer s H E).nox (defBody st) t ∧ t { nx := fun _ H' => Q .non H', rt := Q } (start N vs) H) : Fn P w K mg base x (k + 1) ps sp := by
  obtain ⟨f, fd, F, hm⟩ := D.ex
  exact ⟨f, fd, F.ok S len (hbody f), hm, F.kp, F.binds hb⟩
theorem Mt.of (D : MDef K C m qual st) (S : FnScope N ps (defScope st))
    (hb : ∀ (kV doc pm : Value) (an : Option Addr) (cdv ct : Value) (us : List Value), us.length = ps.length → bindArgs (PySem.W.fnOf m qual (defArgs st) (defBody st) (defScope st) .none kV doc pm an cdv ct) ⟨us, []⟩ = pure (ps.zip us))
    (len : ∀ vs H Q E, sp vs H Q E → vs.length = ps.length)
    (hbody : ∀ (f : Addr) (cdv : Value) (A : Around) (outer : List Env) (s : Shared) (H : Hp) (vs : List V) (Q : VK) (E : XK), Room k (A.deeper (envOfC qual (defScope st) s.heap.objs.size f cdv)) → sp vs H Q E →
      ∃ t, PSs (cxOf CX0 P w K mg base N qual (defScope st) f cdv A outer s H E).nox (defBody st) t ∧ t { nx := fun _ H' => Q .non H', rt := Q } (start N vs) H) : Mt P w K mg base C m (k + 1) ps sp := by
  obtain ⟨f, fd, F, hm⟩ := D.ex
  exact ⟨f, fd, F.ok S len (hbody f), hm, F.binds hb⟩
theorem Ctor.of (D : MDef K C "__init__" qual st) (hmk : PySem.W.makesIn K C = true) (hkp : PySem.W.keepIn K (.ref C) = true) (hx : mg x = some (.ref C)) (S : FnScope N ps (defScope st))
    (hb : ∀ (kV doc pm : Value) (an : Option Addr) (cdv ct : Value) (us : List Value), us.length = ps.length → bindArgs (PySem.W.fnOf "__init__" qual (defArgs st) (defBody st) (defScope st) .none kV doc pm an cdv ct) ⟨us, []⟩ = pure (ps.zip us))
    (len : ∀ vs H Q E, sp vs H Q E → vs.length = ps.length)
    (hbody : ∀ (f : Addr) (cdv : Value) (A : Around) (outer : List Env) (s : Shared) (H : Hp) (vs : List V) (Q : VK) (E : XK), Room k (A.deeper (envOfC qual (defScope st) s.heap.objs.size f cdv)) → sp vs H Q E →
      ∃ t, PSs (cxOf CX0 P w K mg base N qual (defScope st) f cdv A outer s H E).nox (defBody st) t ∧ t { nx := fun _ H' => Q .non H', rt := Q } (start N vs) H) : Ctor P w K mg base x C (k + 1) ps sp := by
  obtain ⟨f, fd, F, hm⟩ := D.ex
  exact ⟨f, fd, F.ok S len (hbody f), ⟨hmk, hm.at_, hm.fn, hkp⟩, hx, F.binds hb⟩
end

/-! ### promises: a value; a new object -/
def spV (R : List V → Hp → V → Prop) : Sp := fun vs H Q _ => ∃ v, R vs H v ∧ ∀ H2, Ex H H2 → Q v H2
def spN (R : List V → Hp → (Addr → Hp → Prop) → Prop) : Sp := fun vs H Q _ => ∃ P, R vs H P ∧ ∀ p H2, H p = none → Ex H H2 → P p H2 → Q (.ref p) H2
/-- a new object with something known -/
def EvN (te : TE) (σ : L2.St) (H : Hp) (P : Addr → Hp → Prop) : Prop := ∀ H1, Ex H H1 → ∀ Q : VK, (∀ p H2, H1 p = none → Ex H1 H2 → P p H2 → Q (.ref p) H2) → te σ H1 Q
section
variable {K : PySem.W.Frag} {σ : L2.St} {H H' : Hp} {ta tb te tx : TE} {t u : TT} {x y z v : V} {a C dx : Addr} {fs : List (Str × V)} {f m : Str} {vs : List V} {tg : TA}
theorem EvN.mono {P : Addr → Hp → Prop} (e : Ex H H') (h : EvN te σ H P) : EvN te σ H' P := fun H1 a Q q => h H1 (e.trans a) Q q
theorem EvL.toN {xs : List V} (h : EvL te σ H xs) : EvN te σ H (fun p H2 => H2 p = some (.lst xs)) := h
theorem ev_fld (ha : Ev ta σ H (.ref a)) (ho : H a = some (.ins C dx fs)) (hc : Cls K C) (hn : NoAttr K C f) (hl : fs.lookup f = some v) : Ev (tFld K ta f) σ H v := fun H1 e Q q =>
  ha H1 e _ fun H2 e2 => ⟨a, C, dx, fs, v, rfl, (e.trans e2) a _ ho, hc, hn, hl, q H2 e2⟩
theorem ev_callV {R : List V → Hp → V → Prop} {E : XK} (h : EvA tg σ H vs) (hR : ∀ H1, Ex H H1 → R (vs ++ []) H1 z) : Ev (tCall (spV R) [] E tg) σ H z := fun H1 e Q q =>
  h H1 e _ fun H2 e2 => ⟨z, hR H2 (e.trans e2), fun H3 e3 => q H3 (e2.trans e3)⟩
theorem en_call {R : List V → Hp → (Addr → Hp → Prop) → Prop} {P : Addr → Hp → Prop} {E : XK} (h : EvA tg σ H vs) (hR : ∀ H1, Ex H H1 → R (vs ++ []) H1 P) : EvN (tCall (spN R) [] E tg) σ H P := fun H1 e Q q =>
  h H1 e _ fun H2 e2 => ⟨P, hR H2 (e.trans e2), fun p H3 hp e3 hP => q p H3 (fresh_back e2 hp) (e2.trans e3) hP⟩
theorem ev_methV {R : List V → Hp → V → Prop} {E : XK} (ho : Ev ta σ H (.ref a)) (hi : H a = some (.ins C dx fs)) (hl : fs.lookup m = none) (h : EvA tg σ H vs) (hR : ∀ H1, Ex H H1 → R (.ref a :: (vs ++ [])) H1 z) : Ev (tMeth C m (spV R) [] E ta tg) σ H z := fun H1 e Q q =>
  ho H1 e _ fun H2 e2 => ⟨a, dx, fs, rfl, (e.trans e2) a _ hi, hl, h H2 (e.trans e2) _ fun H3 e3 => ⟨z, hR H3 ((e.trans e2).trans e3), fun H4 e4 => q H4 ((e2.trans e3).trans e4)⟩⟩
theorem en_meth {R : List V → Hp → (Addr → Hp → Prop) → Prop} {P : Addr → Hp → Prop} {E : XK} (ho : Ev ta σ H (.ref a)) (hi : H a = some (.ins C dx fs)) (hl : fs.lookup m = none) (h : EvA tg σ H vs) (hR : ∀ H1, Ex H H1 → R (.ref a :: (vs ++ [])) H1 P) :
    EvN (tMeth C m (spN R) [] E ta tg) σ H P := fun H1 e Q q =>
  ho H1 e _ fun H2 e2 => ⟨a, dx, fs, rfl, (e.trans e2) a _ hi, hl, h H2 (e.trans e2) _ fun H3 e3 => ⟨P, hR H3 ((e.trans e2).trans e3), fun p H4 hp e4 hP => q p H4 (fresh_back (e2.trans e3) hp) ((e2.trans e3).trans e4) hP⟩⟩
theorem ev_left (h : Ev ta σ H z) : Ev (tEither ta tb) σ H z := fun H1 e Q q => .inl (h H1 e Q q)
theorem ev_right (h : Ev tb σ H z) : Ev (tEither ta tb) σ H z := fun H1 e Q q => .inr (h H1 e Q q)
/-- an operand that is a new object with something known -/
theorem ev_opN1 {r : R2} {P : Addr → Hp → Prop} (ha : EvN ta σ H P) (hb : Ev tb σ H y) (hP : ∀ p H1 H2, P p H1 → Ex H1 H2 → P p H2) (hr : ∀ p H1, P p H1 → Ex H H1 → RV r (.ref p) y H1 z) : Ev (tOp r ta tb) σ H z := fun H1 e Q q =>
  ha H1 e _ fun p H2 _ e2 hp => hb H2 (e.trans e2) _ fun H3 e3 => hr p H3 (hP p H2 H3 hp e3) ((e.trans e2).trans e3) H3 (Ex.refl H3) Q fun H4 e4 => q H4 ((e2.trans e3).trans e4)
/-- a value's answer, the value an int by its rule -/
theorem ev_int {i j : Int} (h : Ev te σ H (.int i)) (e : i = j) : Ev te σ H (.int j) := by
  rw [← e]
  exact h
theorem et_chain {r r' : R2} {b1 b2 : Bool} (ha : Ev ta σ H x) (hb : Ev tb σ H y) (hc : Ev tx σ H z) (h1 : RV r x y H (.bl b1)) (h2 : b1 = true → RV r' y z H (.bl b2)) : Ev (tChain r r' ta tb tx) σ H (.bl (b1 && b2)) := fun H1 e Q q =>
  ha H1 e _ fun H2 e2 => hb H2 (e.trans e2) _ fun H3 e3 => h1 H3 ((e.trans e2).trans e3) _ fun H4 e4 => ⟨b1, rfl, by
    have e14 : Ex H H4 := ((e.trans e2).trans e3).trans e4
    cases b1 with
    | true =>
      show tx σ H4 _
      exact hc H4 e14 _ fun H5 e5 => h2 rfl H5 (e14.trans e5) Q fun H6 e6 => q H6 (((e2.trans e3).trans e4).trans (e5.trans e6))
    | false =>
      show Q (.bl false) H4
      exact q H4 ((e2.trans e3).trans e4)⟩
theorem rv_I0' {g : Int → Int → V} {i j : Int} (e : g i j = z) : RV (rI0 g) (.int i) (.int j) H z := by
  rw [← e]
  exact rv_I0
/-- a dict that is read -/
theorem rd_mono {o : HO} (e : Ex H H') (h : Rd H a o) : Rd H' a o := ex_rd e h
theorem ev_dgetK {kvs : List (Key × V)} {k : Key} (ha : Ev ta σ H (.ref a)) (hk : Ev tb σ H (kV k)) (h : Rd H a (.dK kvs)) (hv : valV kvs k = some v) : Ev (tDGet ta tb) σ H v := fun H1 e Q q =>
  ha H1 e _ fun H2 e2 => hk H2 (e.trans e2) _ fun H3 e3 => ⟨a, v, rfl, .inl ⟨kvs, k, ex_rd ((e.trans e2).trans e3) h, rfl, hv.symm⟩, q H3 (e2.trans e3)⟩
theorem ev_dinK {kvs : List (Key × V)} {k : Key} (hk : Ev tb σ H (kV k)) (ha : Ev ta σ H (.ref a)) (h : Rd H a (.dK kvs)) : Ev (tDIn tb ta) σ H (.bl (valV kvs k).isSome) := fun H1 e Q q =>
  hk H1 e _ fun H2 e2 => ha H2 (e.trans e2) _ fun H3 e3 => ⟨a, valV kvs k, rfl, .inl ⟨kvs, k, ex_rd ((e.trans e2).trans e3) h, rfl, rfl⟩, q H3 (e2.trans e3)⟩
theorem ev_dninK {kvs : List (Key × V)} {k : Key} (hk : Ev tb σ H (kV k)) (ha : Ev ta σ H (.ref a)) (h : Rd H a (.dK kvs)) : Ev (tDNotIn tb ta) σ H (.bl (!(valV kvs k).isSome)) := fun H1 e Q q =>
  hk H1 e _ fun H2 e2 => ha H2 (e.trans e2) _ fun H3 e3 => ⟨a, valV kvs k, rfl, .inl ⟨kvs, k, ex_rd ((e.trans e2).trans e3) h, rfl, rfl⟩, q H3 (e2.trans e3)⟩
/-- a tuple made on the way as a key -/
theorem ev_dinT {kvs : List (List Key × V)} {k : List Key} {td : TE} (hk : EvU tb σ H (k.map kV)) (ha : Ev td σ H (.ref a)) (h : Rd H a (.dT kvs)) : Ev (tDIn tb td) σ H (.bl (valV kvs k).isSome) := fun H1 e Q q =>
  hk H1 e _ fun p H2 _ e2 hp => ha H2 (e.trans e2) _ fun H3 e3 => ⟨a, valV kvs k, rfl, .inr ⟨kvs, k, p, ex_rd ((e.trans e2).trans e3) h, rfl, e3 p _ hp, rfl⟩, q H3 (e2.trans e3)⟩
theorem ev_isN (ha : Ev ta σ H x) : Ev (tIsN ta) σ H (.bl (decide (x = .non))) := fun H1 e Q q => ha H1 e _ fun H2 e2 => q H2 e2
theorem ev_notN (ha : Ev ta σ H x) : Ev (tNotN ta) σ H (.bl (!decide (x = .non))) := fun H1 e Q q => ha H1 e _ fun H2 e2 => q H2 e2
/-! ### isinstance, length -/
theorem ev_isi {n : String} {tt : Value} {b : Bool} (ha : Ev ta σ H x) (ht : ∀ H1, Ex H H1 → TyX K H1 x tt) (hk : PySem.W.kitOne K tt (.type n) = some b) : Ev (tCB (rIsi K) (tCons ta (tCons (tC (.ty n)) tNil))) σ H (.bl b) := fun H1 e Q q =>
  ha H1 e _ fun H2 e2 => ⟨x, .ty n, tt, .type n, b, rfl, .ty n, ht H2 (e.trans e2), hk, q H2 e2⟩
theorem ev_lenT {p : Addr} {xs : List V} (ha : Ev ta σ H (.ref p)) (h : SqT K H p xs) : Ev (tCB (rLenS K) (tCons ta tNil)) σ H (.int (xs.length : Int)) := fun H1 e Q q =>
  ha H1 e _ fun H2 e2 => ⟨p, xs, rfl, Or.inr (ex_t (e.trans e2) h), q H2 e2⟩
def rLenStr : List V → Hp → VK → Prop := fun xs H Q => ∃ z, xs = [.str z] ∧ z.length ≤ sizeLine ∧ Q (.int z.length) H
theorem ev_lenS {z : Str} (ha : Ev ta σ H (.str z)) (h : z.length ≤ 100000) : Ev (tCB rLenStr (tCons ta tNil)) σ H (.int (z.length : Int)) := fun H1 e Q q =>
  ha H1 e _ fun H2 e2 => ⟨z, rfl, sz_of h, q H2 e2⟩
theorem ev_any {a : Addr} {bs : List Bool} (ha : EvL ta σ H (bs.map V.bl)) : Ev (tCB (rAny K) (tCons ta tNil)) σ H (.bl (bs.any id)) := fun H1 e Q q =>
  ha H1 e _ fun p H2 _ e2 hp => ⟨p, bs, rfl, sq_of hp, q H2 e2⟩
theorem ev_all {bs : List Bool} (ha : EvL ta σ H (bs.map V.bl)) : Ev (tCB (rAll K) (tCons ta tNil)) σ H (.bl (bs.all id)) := fun H1 e Q q =>
  ha H1 e _ fun p H2 _ e2 hp => ⟨p, bs, rfl, sq_of hp, q H2 e2⟩
theorem ev_any' {bs : List Bool} (ha : EvL ta σ H (bs.map V.bl)) : Ev (tCB (rAny K) (tCons ta tNil)) σ H (.bl (bs.any id)) := fun H1 e Q q =>
  ha H1 e _ fun p H2 _ e2 hp => ⟨p, bs, rfl, sq_of hp, q H2 e2⟩
def rMin2 : List V → Hp → VK → Prop := fun xs H Q => ∃ i j, xs = [.int i, .int j] ∧ Q (.int (if j < i then j else i)) H
theorem ev_min2 {i j : Int} (ha : Ev ta σ H (.int i)) (hb : Ev tb σ H (.int j)) : Ev (tCB rMin2 (tCons ta (tCons tb tNil))) σ H (.int (if j < i then j else i)) := fun H1 e Q q =>
  ha H1 e _ fun H2 e2 => hb H2 (e.trans e2) _ fun H3 e3 => ⟨i, j, rfl, q H3 (e2.trans e3)⟩
def rInt1 : List V → Hp → VK → Prop := fun xs H Q => (∃ i, xs = [.int i] ∧ Q (.int i) H) ∨ ∃ k, xs = [.bl k] ∧ Q (.int (if k then 1 else 0)) H
theorem ev_int1 {k : Bool} (ha : Ev ta σ H (.bl k)) : Ev (tCB rInt1 (tCons ta tNil)) σ H (.int (if k then 1 else 0)) := fun H1 e Q q =>
  ha H1 e _ fun H2 e2 => .inr ⟨k, rfl, q H2 e2⟩

/-! ### what a for walks -/
def EvI (wi : TI) (σ : L2.St) (H : Hp) (J : It) : Prop := ∀ H1, Ex H H1 → ∀ R : It → Hp → Prop, (∀ H2, Ex H1 H2 → R J H2) → wi σ H1 R
theorem ei_list {p : Addr} {xs : List V} (h : Ev ta σ H (.ref p)) (hx : SqL K H p xs) : EvI (iList K ta) σ H (Itl K p) := fun H1 e R r => h H1 e _ fun H2 e2 => ⟨p, rfl, ⟨xs, ex_l (e.trans e2) hx⟩, r H2 e2⟩
theorem ei_enum {p : Addr} {xs : List V} (h : Ev ta σ H (.ref p)) (hx : SqL K H p xs) : EvI (iEnum K (tCons ta tNil)) σ H (Ite K p) := fun H1 e R r => h H1 e _ fun H2 e2 => ⟨p, xs, rfl, ex_l (e.trans e2) hx, r H2 e2⟩
theorem ei_enumT {p : Addr} {xs : List V} (h : Ev ta σ H (.ref p)) (hx : SqT K H p xs) : EvI (iEnumT K (tCons ta tNil)) σ H (IteT K p) := fun H1 e R r => h H1 e _ fun H2 e2 => ⟨p, xs, rfl, ex_t (e.trans e2) hx, r H2 e2⟩
theorem ei_range1 {j : Int} (h : Ev ta σ H (.int j)) (h1 : -(2 ^ 62) ≤ j) (h2 : j < 2 ^ 62) : EvI (iRng1 (tCons ta tNil)) σ H (Itr 0 j.toNat) := fun H1 e R r => h H1 e _ fun H2 e2 => ⟨j, rfl, h1, h2, r H2 e2⟩
theorem ei_range2 {i j : Int} (h : Ev ta σ H (.int i)) (h' : Ev tb σ H (.int j)) (hb : -(2 ^ 62) ≤ i ∧ i < 2 ^ 62 ∧ -(2 ^ 62) ≤ j ∧ j < 2 ^ 62) : EvI (iRng2 (tCons ta (tCons tb tNil))) σ H (Itr i (j - i).toNat) := fun H1 e R r =>
  h H1 e _ fun H2 e2 => h' H2 (e.trans e2) _ fun H3 e3 => ⟨i, j, rfl, hb, r H3 (e2.trans e3)⟩
theorem ei_range3 {i j c : Int} {n : Nat} (h : Ev ta σ H (.int i)) (h' : Ev tb σ H (.int j)) (h'' : Ev tx σ H (.int c)) (hb : RgC i j c n) : EvI (iRng3 (tCons ta (tCons tb (tCons tx tNil)))) σ H (Itc i c n) := fun H1 e R r =>
  h H1 e _ fun H2 e2 => h' H2 (e.trans e2) _ fun H3 e3 => h'' H3 ((e.trans e2).trans e3) _ fun H4 e4 => ⟨i, j, c, n, rfl, hb, r H4 ((e2.trans e3).trans e4)⟩
theorem ei_str {z : Str} (h : Ev ta σ H (.str z)) : EvI (iStr ta) σ H (Its z) := fun H1 e R r => h H1 e _ fun H2 e2 => ⟨z, rfl, r H2 e2⟩
theorem ei_keys {d : Addr} {o : Obj} {kvs : List (Key × V)} (h : Ev ta σ H (.ref d)) (hd : H d = some (.frz o (.dK kvs))) : EvI (iKeys ta) σ H (Itk d o kvs) := fun H1 e R r => h H1 e _ fun H2 e2 => ⟨d, o, rfl, .inl ⟨kvs, (e.trans e2) d _ hd, r H2 e2⟩⟩
theorem walk_enumT {p : Addr} {xs : List V} : Walk (IteT K p) xs.length (fun H => SqT K H p xs) (YPair (fun i => some (.int (i : Nat))) (fun i => xs[i]?)) := by
  refine ⟨fun i _ hi q => ⟨xs, xs[i], q, by simp [hi]⟩, fun _ q => ⟨xs, q, Nat.le_refl _⟩, fun i H v H' _ q y => ?_⟩
  obtain ⟨T, x, h1, h2, h3, h4⟩ := y
  exact ⟨T, .int (i : Nat), x, h1, h2, h3, rfl, h4 xs q⟩

/-! ### comprehensions -/
section
variable {J : It} {n : Nat} {G : Hp → Prop} {Y : Nat → Hp → V → Hp → Prop} {wi : TI} {ws : List Nat}
theorem cw_go {H' : Hp} {f : Nat → Bool} {v : Nat → V} {Dl : Addr} {i : Nat} {σ2 : L2.St} (p : Cw H f v Dl i H') (hi : i < 50000) {Hc : Hp} (ec : Ex H' Hc) (ht : EvT t σ2 Hc (f i)) (he : f i = true → Ev te σ2 Hc (v i)) :
    t σ2 Hc fun b H3 => if b = true then te σ2 H3 fun y H4 => ∃ acc, H4 Dl = some (.lst acc) ∧ acc.length < sizeLine ∧ Cw H f v Dl (i + 1) (upd H4 Dl (.lst (acc ++ [y]))) else Cw H f v Dl (i + 1) H3 := by
  obtain ⟨p1, p2, p3⟩ := p
  refine ht Hc (Ex.refl Hc) _ fun H3 e3 => ?_
  cases hf : f i with
  | true =>
    show te σ2 H3 fun y H4 => ∃ acc, H4 Dl = some (.lst acc) ∧ acc.length < sizeLine ∧ Cw H f v Dl (i + 1) (upd H4 Dl (.lst (acc ++ [y])))
    refine he hf H3 e3 _ fun H4 e4 => ⟨given i f v, e4 Dl _ (e3 Dl _ (ec Dl _ p3)), sz_lt (by have := given_len i f v; omega), p1, Ex.mut (((p2.trans ec).trans e3).trans e4) p1, ?_⟩
    rw [given_yes hf]
    exact upd_same
  | false =>
    show Cw H f v Dl (i + 1) H3
    refine ⟨p1, (p2.trans ec).trans e3, ?_⟩
    rw [given_no hf]
    exact e3 Dl _ (ec Dl _ p3)
/-- the target a name -/
theorem el_lcN {j : Nat} (f : Nat → Bool) (v : Nat → V) (hn : n ≤ 40000) (hi : EvI wi σ H J) (w : Walk J n G Y) (hG : ∀ H1, Ex H H1 → G H1) (hY : ∀ i H1 x H2, Y i H1 x H2 → H2 = H1) (hw : ∀ x, wipe ((wipe σ ws).set j (some x)) ws = wipe σ ws)
    (hs : ∀ i x H1, i < n → Ex H H1 → Y i H1 x H1 → EvT t ((wipe σ ws).set j (some x)) H1 (f i) ∧ (f i = true → Ev te ((wipe σ ws).set j (some x)) H1 (v i))) : EvL (tLc wi (gName j) t te ws) σ H (given n f v) := fun H0 e Q q =>
  hi H0 e _ fun H1 e1 => fun Dl hD => lc_it w (Cw H1 f v Dl) ⟨hD, Ex.new hD, upd_same⟩ (fun i H' _ p => hG H' ((e.trans e1).trans p.2.1)) (fun i x Ha Hb hi2 p y => by
    have eh := hY i Ha x Hb y
    subst eh
    obtain ⟨h1, h2⟩ := hs i x Hb hi2 ((e.trans e1).trans p.2.1) y
    exact ⟨hw x, cw_go p (by omega) (Ex.refl _) h1 h2⟩) fun H' p => q Dl H' (fresh_back e1 p.1) (e1.trans p.2.1) p.2.2
/-- the target a pair of names, the pair made at each turn -/
theorem el_lcP {j l : Nat} {as bs : Nat → Option V} (f : Nat → Bool) (v : Nat → V) (hn : n ≤ 40000) (hi : EvI wi σ H J) (w : Walk J n G (YPair as bs)) (hG : ∀ H1, Ex H H1 → G H1) (hw : ∀ x y, wipe (((wipe σ ws).set j (some x)).set l (some y)) ws = wipe σ ws)
    (hs : ∀ i x y H1, i < n → Ex H H1 → as i = some x → bs i = some y → EvT t (((wipe σ ws).set j (some x)).set l (some y)) H1 (f i) ∧ (f i = true → Ev te (((wipe σ ws).set j (some x)).set l (some y)) H1 (v i))) :
    EvL (tLc wi (gTup K 2 (gCons (gName j) (gCons (gName l) gNil))) t te ws) σ H (given n f v) := fun H0 e Q q =>
  hi H0 e _ fun H1 e1 => fun Dl hD => lc_it w (Cw H1 f v Dl) ⟨hD, Ex.new hD, upd_same⟩ (fun i H' _ p => hG H' ((e.trans e1).trans p.2.1)) (fun i x Ha Hb hi2 p y => by
    obtain ⟨T, a, b, rfl, hT, rfl, ha, hb⟩ := y
    obtain ⟨h1, h2⟩ := hs i a b _ hi2 (((e.trans e1).trans p.2.1).trans (Ex.new hT)) ha hb
    exact ⟨T, [a, b], rfl, st_of upd_same, rfl, a, [b], rfl, b, [], rfl, rfl, hw a b, cw_go p (by omega) (Ex.new hT) h1 h2⟩) fun H' p => q Dl H' (fresh_back e1 p.1) (e1.trans p.2.1) p.2.2
/-- over a dict that is locked meanwhile -/
theorem el_lock {te : TE} {d : Addr} {kvs : List (Key × V)} {xs : List V} (hd : H d = some (.dK kvs)) (h : ∀ od, EvL te σ (upd H d (.frz od (.dK kvs))) xs) : EvL (tLockE te) σ H xs := fun H1 e Q q => by
  refine ⟨d, .dK kvs, e d _ hd, trivial, fun od => ?_⟩
  have ex1 : Ex (upd H d (.frz od (.dK kvs))) (upd H1 d (.frz od (.dK kvs))) := fun a o ha => by
    by_cases z : a = d
    · subst z
      rw [upd_same] at ha ⊢
      exact ha
    · rw [upd_ne z] at ha ⊢
      exact e a o ha
  refine h od _ ex1 _ fun p H2 hp e2 hl => ⟨e2 d _ upd_same, ?_⟩
  have hpd : p ≠ d := fun z => by
    rw [z, upd_same] at hp
    cases hp
  rw [upd_ne hpd] at hp
  refine q p _ hp (fun a o ha => ?_) (by rw [upd_ne hpd]; exact hl)
  by_cases z : a = d
  · subst z
    have hh := e a _ hd
    rw [hh] at ha
    cases ha
    exact upd_same
  · rw [upd_ne z]
    exact e2 a o (by rw [upd_ne z]; exact ha)
/-! ### a for -/
theorem q_forI {g : TG} {tb tz : TS} {D : Ends} (hi : EvI wi σ H J) (w : Walk J n G Y) (Pv : Nat → L2.St → Hp → Prop) (h0 : ∀ H1, Ex H H1 → Pv 0 σ H1) (hG : ∀ i σ' H', i ≤ n → Pv i σ' H' → G H')
    (hs : ∀ i x σ' H' H'', i < n → Pv i σ' H' → Y i H' x H'' → g x σ' H'' fun σ2 H2 => tb { D with nx := Pv (i + 1), ct := Pv (i + 1), bk := tz D } σ2 H2) (hd : ∀ σ' H', Pv n σ' H' → tz D σ' H') : tSeq (tFor wi g tb) tz D σ H :=
  hi H (Ex.refl H) _ fun H1 e => for_it (D := { D with nx := tz D }) w Pv (h0 H1 e) hG hs hd
/-- the pair of an enumerate, taken apart -/
theorem g_pair {j l : Nat} {as bs : Nat → Option V} {i : Nat} {x : V} {H' H'' : Hp} {σ' : L2.St} {R : L2.St → Hp → Prop} (y : YPair as bs i H' x H'') (h : ∀ a b, as i = some a → bs i = some b → Ex H' H'' → R ((σ'.set j (some a)).set l (some b)) H'') :
    gTup K 2 (gCons (gName j) (gCons (gName l) gNil)) x σ' H'' R := by
  obtain ⟨T, a, b, rfl, hT, rfl, ha, hb⟩ := y
  exact ⟨T, [a, b], rfl, st_of upd_same, rfl, a, [b], rfl, b, [], rfl, rfl, h a b ha hb (Ex.new hT)⟩
end
end
end BK
set_option Elab.async false
set_option linter.all false
set_option maxRecDepth 100000
set_option maxHeartbeats 4000000
/-! The text by places; what the top has written (each def, method, class, constant). Printed by gentxt.py. -/
namespace Bo
open PySem PySem.Spec PyProof.Rows L2 Evl BK
def top (i : Nat) : Stmt := PySem.Challenge.pw_boughask_k73_whole_through_kept_answers.main.body.getD i (.Pass ⟨0, 0, 0, 0⟩)
abbrev s_is_whole : Stmt := top 13
abbrev s_is_within : Stmt := top 14
abbrev s_is_label : Stmt := top 15
abbrev s_ends_by : Stmt := top 19
abbrev s_uppers_by : Stmt := top 20
abbrev s_is_part_row : Stmt := top 21
abbrev s_Document___init__ : Stmt := inClass (top 22) 0
abbrev s_Document_need_part : Stmt := inClass (top 22) 1
abbrev s_Document_label_of : Stmt := inClass (top 22) 3
abbrev s_Document_end_of : Stmt := inClass (top 22) 5
abbrev s_Document_upper_of : Stmt := inClass (top 22) 6
abbrev s_Document_lowers_of : Stmt := inClass (top 22) 7
abbrev s_Document_is_beneath : Stmt := inClass (top 22) 8
abbrev s_Document_parts_of : Stmt := inClass (top 22) 9
abbrev s_Step___init__ : Stmt := inClass (top 24) 0
abbrev s_Straight_way : Stmt := inClass (top 25) 0
abbrev s_Anywhere_way : Stmt := inClass (top 26) 0
abbrev s_step_of : Stmt := top 27
abbrev s_is_step_row : Stmt := top 32
abbrev s_Question___init__ : Stmt := inClass (top 33) 0
abbrev s_Question_need_step : Stmt := inClass (top 33) 1
abbrev s_Question_many : Stmt := inClass (top 33) 2
abbrev s_Question_step_at : Stmt := inClass (top 33) 3
abbrev s_Question_depth_of : Stmt := inClass (top 33) 4
abbrev s_Question_end_of : Stmt := inClass (top 33) 5
abbrev s_Question_upper_of : Stmt := inClass (top 33) 6
abbrev s_Question_lowers_of : Stmt := inClass (top 33) 7
abbrev s_Question_wanted : Stmt := inClass (top 33) 8
abbrev s_Question_rows : Stmt := inClass (top 33) 10
abbrev s_with_beneath : Stmt := top 35
abbrev s_with_above : Stmt := top 36
abbrev s_down_row : Stmt := top 37
abbrev s_full_row : Stmt := top 38
abbrev s_down_table : Stmt := top 39
abbrev s_full_table : Stmt := top 40
abbrev s_beneath_any : Stmt := top 42
abbrev s_told_at : Stmt := top 43
abbrev s_through : Stmt := top 44
abbrev s_joined_rows : Stmt := top 45
abbrev s_together : Stmt := top 46
abbrev s_run_slow : Stmt := top 48
abbrev s__law_cell_at : Stmt := top 50
abbrev s__law_source : Stmt := top 51
abbrev s__law_take : Stmt := top 52
abbrev s__law_labels : Stmt := top 53
abbrev s__law_depth : Stmt := top 54
abbrev s__law_rows : Stmt := top 55
abbrev s__law_steps : Stmt := top 56
abbrev s__law_uppers : Stmt := top 57
abbrev s__law_beneath : Stmt := top 58
abbrev s__law_question : Stmt := top 59
abbrev s__law_down : Stmt := top 60
abbrev s__law_pairs : Stmt := top 61
abbrev s__law_answer : Stmt := top 62
abbrev s__law_end : Stmt := top 64
abbrev s__law_laid : Stmt := top 66
abbrev s_law : Stmt := top 67
def letters : Str := "abcdefghijklmnopqrstuvwxyz"
structure WaysAt (K : PySem.W.Frag) (a : Addr) : Prop where
  ex : ∃ (o : Obj) (its : Array Value) (n : Nat), K.lookup a = some o ∧ o.cls = .type "list" ∧ o.dict = none ∧ o.data = .seq its n ∧ its.size ≤ sizeLine ∧ Vals [.str "/", .str "//"] its.toList
structure Txt (K : PySem.W.Frag) (mg : Str → Option Value) (CD CQ CS CA : Addr) : Prop where
  g_is_whole : GDef K mg "is_whole" s_is_whole
  g_is_within : GDef K mg "is_within" s_is_within
  g_is_label : GDef K mg "is_label" s_is_label
  g_ends_by : GDef K mg "ends_by" s_ends_by
  g_uppers_by : GDef K mg "uppers_by" s_uppers_by
  g_is_part_row : GDef K mg "is_part_row" s_is_part_row
  g_step_of : GDef K mg "step_of" s_step_of
  g_is_step_row : GDef K mg "is_step_row" s_is_step_row
  g_with_beneath : GDef K mg "with_beneath" s_with_beneath
  g_with_above : GDef K mg "with_above" s_with_above
  g_down_row : GDef K mg "down_row" s_down_row
  g_full_row : GDef K mg "full_row" s_full_row
  g_down_table : GDef K mg "down_table" s_down_table
  g_full_table : GDef K mg "full_table" s_full_table
  g_beneath_any : GDef K mg "beneath_any" s_beneath_any
  g_told_at : GDef K mg "told_at" s_told_at
  g_through : GDef K mg "through" s_through
  g_joined_rows : GDef K mg "joined_rows" s_joined_rows
  g_together : GDef K mg "together" s_together
  g_run_slow : GDef K mg "run_slow" s_run_slow
  g__law_cell_at : GDef K mg "_law_cell_at" s__law_cell_at
  g__law_source : GDef K mg "_law_source" s__law_source
  g__law_take : GDef K mg "_law_take" s__law_take
  g__law_labels : GDef K mg "_law_labels" s__law_labels
  g__law_depth : GDef K mg "_law_depth" s__law_depth
  g__law_rows : GDef K mg "_law_rows" s__law_rows
  g__law_steps : GDef K mg "_law_steps" s__law_steps
  g__law_uppers : GDef K mg "_law_uppers" s__law_uppers
  g__law_beneath : GDef K mg "_law_beneath" s__law_beneath
  g__law_question : GDef K mg "_law_question" s__law_question
  g__law_down : GDef K mg "_law_down" s__law_down
  g__law_pairs : GDef K mg "_law_pairs" s__law_pairs
  g__law_answer : GDef K mg "_law_answer" s__law_answer
  g__law_end : GDef K mg "_law_end" s__law_end
  g__law_laid : GDef K mg "_law_laid" s__law_laid
  i_Document : MDef K CD "__init__" "Document.__init__" s_Document___init__
  m_Document_need_part : MDef K CD "need_part" "Document.need_part" s_Document_need_part
  m_Document_label_of : MDef K CD "label_of" "Document.label_of" s_Document_label_of
  m_Document_end_of : MDef K CD "end_of" "Document.end_of" s_Document_end_of
  m_Document_upper_of : MDef K CD "upper_of" "Document.upper_of" s_Document_upper_of
  m_Document_lowers_of : MDef K CD "lowers_of" "Document.lowers_of" s_Document_lowers_of
  m_Document_is_beneath : MDef K CD "is_beneath" "Document.is_beneath" s_Document_is_beneath
  m_Document_parts_of : MDef K CD "parts_of" "Document.parts_of" s_Document_parts_of
  i_Straight : MDef K CS "__init__" "Step.__init__" s_Step___init__
  i_Anywhere : MDef K CA "__init__" "Step.__init__" s_Step___init__
  m_Straight_way : MDef K CS "way" "Straight.way" s_Straight_way
  m_Anywhere_way : MDef K CA "way" "Anywhere.way" s_Anywhere_way
  i_Question : MDef K CQ "__init__" "Question.__init__" s_Question___init__
  m_Question_need_step : MDef K CQ "need_step" "Question.need_step" s_Question_need_step
  m_Question_many : MDef K CQ "many" "Question.many" s_Question_many
  m_Question_step_at : MDef K CQ "step_at" "Question.step_at" s_Question_step_at
  m_Question_depth_of : MDef K CQ "depth_of" "Question.depth_of" s_Question_depth_of
  m_Question_end_of : MDef K CQ "end_of" "Question.end_of" s_Question_end_of
  m_Question_upper_of : MDef K CQ "upper_of" "Question.upper_of" s_Question_upper_of
  m_Question_lowers_of : MDef K CQ "lowers_of" "Question.lowers_of" s_Question_lowers_of
  m_Question_wanted : MDef K CQ "wanted" "Question.wanted" s_Question_wanted
  m_Question_rows : MDef K CQ "rows" "Question.rows" s_Question_rows
  clD : Cls K CD
  mkD : PySem.W.makesIn K CD = true
  kpD : PySem.W.keepIn K (.ref CD) = true
  xD : mg "Document" = some (.ref CD)
  nD_parts : NoAttr K CD "parts"
  nD_ends : NoAttr K CD "ends"
  nD_uppers : NoAttr K CD "uppers"
  clQ : Cls K CQ
  mkQ : PySem.W.makesIn K CQ = true
  kpQ : PySem.W.keepIn K (.ref CQ) = true
  xQ : mg "Question" = some (.ref CQ)
  nQ_given_rows : NoAttr K CQ "given_rows"
  nQ_goal : NoAttr K CQ "goal"
  nQ_steps : NoAttr K CQ "steps"
  nQ_ends : NoAttr K CQ "ends"
  nQ_uppers : NoAttr K CQ "uppers"
  clS : Cls K CS
  mkS : PySem.W.makesIn K CS = true
  kpS : PySem.W.keepIn K (.ref CS) = true
  xS : mg "Straight" = some (.ref CS)
  nS_label : NoAttr K CS "label"
  clA : Cls K CA
  mkA : PySem.W.makesIn K CA = true
  kpA : PySem.W.keepIn K (.ref CA) = true
  xA : mg "Anywhere" = some (.ref CA)
  nA_label : NoAttr K CA "label"
  z_len : mg "len" = none
  z_min : mg "min" = none
  z_max : mg "max" = none
  z_any : mg "any" = none
  z_all : mg "all" = none
  z_sorted : mg "sorted" = none
  z_list : mg "list" = none
  z_tuple : mg "tuple" = none
  z_isinstance : mg "isinstance" = none
  z_reversed : mg "reversed" = none
  z_range : mg "range" = none
  z_enumerate : mg "enumerate" = none
  z_int : mg "int" = none
  z_str : mg "str" = none
  z_bool : mg "bool" = none
  c_LETTERS : ∃ t, mg "LETTERS" = some (.str letters t)
  c_MOST_LETTERS : ∃ t, mg "MOST_LETTERS" = some (.int 8 t)
  c_MOST_PARTS : ∃ t, mg "MOST_PARTS" = some (.int 240 t)
  c_MOST_DEEP_document : ∃ t, mg "MOST_DEEP_document" = some (.int 80 t)
  c_MOST_STEPS : ∃ t, mg "MOST_STEPS" = some (.int 100 t)
  c_MOST_DEEP_question : ∃ t, mg "MOST_DEEP_question" = some (.int 30 t)
  c_WAYS : ∃ a, mg "WAYS" = some (.ref a) ∧ WaysAt K a
def spLaw (K : PySem.W.Frag) : Sp := fun vs H Q _ => ∃ (a : Addr) (ns : List Int), vs = [.ref a] ∧ SqL K H a (ns.map V.int) ∧ ns.length ≤ 63 ∧ ∀ H2, Q (.bl true) H2
end Bo
set_option Elab.async false
set_option linter.all false
set_option maxRecDepth 100000
set_option maxHeartbeats 4000000
namespace Bo
open PySem PySem.Spec PyProof.Rows L2 Evl BK BL
section
variable {P : Program} {w : World} {K : PySem.W.Frag} {mg : Str → Option Value} {base : Heap} {CD CQ CS CA : Addr}
/-! ### data as values -/
def natV (ns : List Nat) : List V := ns.map fun (n : Nat) => V.int (n : Int)
theorem natV_len (ns : List Nat) : (natV ns).length = ns.length := List.length_map _
theorem natV_at {ns : List Nat} {i n : Nat} (h : ns[i]? = some n) : (natV ns)[i]? = some (.int (n : Int)) := by
  unfold natV
  rw [List.getElem?_map, h]
  rfl
theorem natV_back {ns : List Nat} {i : Nat} {x : V} (h : (natV ns)[i]? = some x) : ∃ n, ns[i]? = some n ∧ x = .int (n : Int) := by
  unfold natV at h
  rw [List.getElem?_map] at h
  cases e : ns[i]? with
  | none => rw [e] at h; cases h
  | some n => rw [e] at h; exact ⟨n, rfl, (Option.some.inj h).symm⟩
theorem natV_append (a b : List Nat) : natV (a ++ b) = natV a ++ natV b := List.map_append
theorem natV_take (a : List Nat) (n : Nat) : natV (a.take n) = (natV a).take n := List.map_take
theorem natV_drop (a : List Nat) (n : Nat) : natV (a.drop n) = (natV a).drop n := List.map_drop
theorem natV_set (a : List Nat) (i n : Nat) : natV (a.set i n) = (natV a).set i (.int (n : Int)) := List.map_set
theorem natV_dropLast (a : List Nat) : natV a.dropLast = (natV a).dropLast := List.map_dropLast
theorem natV_flat (a : List Nat) : (natV a).all flatV = true := by
  rw [List.all_eq_true]
  intro x hx
  obtain ⟨n, _, rfl⟩ := List.mem_map.mp hx
  rfl
def optV : Option Nat → V
  | none => .non
  | some n => .int (n : Int)
def optsV (os : List (Option Nat)) : List V := os.map optV
theorem optsV_len (os : List (Option Nat)) : (optsV os).length = os.length := List.length_map _
theorem optsV_at {os : List (Option Nat)} {i : Nat} {o : Option Nat} (h : os[i]? = some o) : (optsV os)[i]? = some (optV o) := by
  unfold optsV
  rw [List.getElem?_map, h]
  rfl
theorem natV_opt (ns : List Nat) : natV ns = optsV (ns.map some) := by
  unfold natV optsV
  rw [List.map_map]
  rfl
theorem optV_int {o : Option Nat} {n : Nat} : (optV o = .int (n : Int)) ↔ o = some n := by
  cases o with
  | none => exact ⟨fun h => (by cases h), fun h => (by cases h)⟩
  | some m =>
    constructor
    · intro h
      have : (m : Int) = (n : Int) := by injection h
      rw [Int.ofNat.inj this]
    · intro h
      cases h
      rfl
theorem optV_non {o : Option Nat} : (optV o = .non) ↔ o = none := by
  cases o with
  | none => exact ⟨fun _ => rfl, fun _ => rfl⟩
  | some m => exact ⟨fun h => (by cases h), fun h => (by cases h)⟩
/-! ### slices, places -/
theorem cut_to (xs : List V) (n : Nat) : cutV xs none (some (n : Int)) = xs.take n := by
  unfold cutV
  rw [HT.sIx_none, HT.sIx_nat, List.drop_zero, Nat.sub_zero]
  by_cases h : n ≤ xs.length
  · rw [Nat.min_eq_left h]
  · rw [Nat.min_eq_right (by omega), List.take_of_length_le (Nat.le_refl _), List.take_of_length_le (by omega)]
theorem cut_from (xs : List V) (n : Nat) : cutV xs (some (n : Int)) none = xs.drop n := by
  unfold cutV
  rw [HT.sIx_none, HT.sIx_nat]
  by_cases h : n ≤ xs.length
  · rw [Nat.min_eq_left h]
    exact List.take_of_length_le (by rw [List.length_drop]; exact Nat.le_refl _)
  · rw [Nat.min_eq_right (by omega), List.drop_of_length_le (Nat.le_refl _), List.drop_of_length_le (by omega), List.take_nil]
theorem at_nat {xs : List V} {z : Int} {j : Nat} {v : V} (e : z = (j : Int)) (h : xs[j]? = some v) : atI xs z = some v := by
  rw [e]
  exact atI_nat h
/-! ### equality of data -/
def dInts (ns : List Nat) : PyData := .list (ns.map fun (n : Nat) => .int (n : Int))
theorem dp_ints {H : Hp} : ∀ (ns : List Nat), DpAll K H (natV ns) (ns.map fun (n : Nat) => .int (n : Int))
  | [] => .nil
  | n :: r => .cons (.int n) (dp_ints r)
theorem lay_ints : ∀ (ns : List Nat), PyData.canLayAll0 (ns.map fun (n : Nat) => .int (n : Int)) = true ∧ PyData.depthAll (ns.map fun (n : Nat) => .int (n : Int)) = 0
  | [] => ⟨rfl, rfl⟩
  | n :: r => by
    obtain ⟨h1, h2⟩ := lay_ints r
    refine ⟨?_, ?_⟩
    · show (PyData.canLay0 (.int n) && PyData.canLayAll0 _) = true
      rw [h1]
      rfl
    · show max (PyData.depth (.int n)) (PyData.depthAll _) = 0
      rw [h2]
      rfl
theorem shaped_ints (ns : List Nat) : SeqAt.shaped (dInts ns) = true := by
  obtain ⟨h1, h2⟩ := lay_ints ns
  show (PyData.canLayAll0 _ && decide (PyData.depthAll _ + 1 ≤ 64)) = true
  rw [h1, h2]
  rfl
theorem eqv_ints : ∀ (ns : List Nat), PyData.eqvAll (ns.map fun (n : Nat) => .int (n : Int)) (ns.map fun (n : Nat) => .int (n : Int)) = true
  | [] => rfl
  | n :: r => by
    show (PyData.eqv (.int n) (.int n) && PyData.eqvAll _ _) = true
    rw [eqv_ints r]
    show (((n : Int) == (n : Int)) && true) = true
    simp
theorem eqv_nil (ds : List PyData) : PyData.eqv (.list ds) (.list []) = ds.isEmpty := by
  cases ds <;> rfl
section
variable {σ : L2.St} {H : Hp} {ta tb te : TE} {D : Ends}
theorem ev_ne_nil {a : Addr} {xs : List V} {ds : List PyData} (ha : Ev ta σ H (.ref a)) (h : ∀ H1, Ex H H1 → Dp K H1 (.ref a) (.list ds)) (hs : SeqAt.shaped (.list ds) = true) : Ev (tOp (rNeD K) ta (tLst tNil)) σ H (.bl (!ds.isEmpty)) := fun H1 e Q q =>
  ha H1 e _ fun H2 e2 => ⟨Nat.zero_le _, fun p hp => ⟨.list ds, .list [], h _ ((e.trans e2).trans (Ex.new hp)), .lst (sq_of upd_same) .nil, hs, rfl, by
    rw [eqv_nil]
    exact q _ (e2.trans (Ex.new hp))⟩⟩
theorem ev_eq_nil {a : Addr} {ds : List PyData} (ha : Ev ta σ H (.ref a)) (h : ∀ H1, Ex H H1 → Dp K H1 (.ref a) (.list ds)) (hs : SeqAt.shaped (.list ds) = true) : Ev (tOp (rEqD K) ta (tLst tNil)) σ H (.bl ds.isEmpty) := fun H1 e Q q =>
  ha H1 e _ fun H2 e2 => ⟨Nat.zero_le _, fun p hp => ⟨.list ds, .list [], h _ ((e.trans e2).trans (Ex.new hp)), .lst (sq_of upd_same) .nil, hs, rfl, by
    rw [eqv_nil]
    exact q _ (e2.trans (Ex.new hp))⟩⟩
theorem dp_of {a : Addr} {ns : List Nat} (h : SqL K H a (natV ns)) : Dp K H (.ref a) (dInts ns) := .lst h (dp_ints ns)
/-- two lists put together -/
theorem el_cat {a b : Addr} {xs ys : List V} (ha : Ev ta σ H (.ref a)) (hb : Ev tb σ H (.ref b)) (h1 : H a = some (.lst xs)) (h2 : H b = some (.lst ys)) (hz : xs.length + ys.length ≤ 100000) : EvL (tOp rCat ta tb) σ H (xs ++ ys) := fun H1 e Q q =>
  ha H1 e _ fun H2 e2 => hb H2 (e.trans e2) _ fun H3 e3 => ⟨a, b, xs, ys, rfl, rfl, ((e.trans e2).trans e3) a _ h1, ((e.trans e2).trans e3) b _ h2, sz_of hz, fun p hp => q p _ (fresh_back (e2.trans e3) hp) ((e2.trans e3).trans (Ex.new hp)) upd_same⟩
theorem el_catN {xs ys : List V} (ha : EvL ta σ H xs) (hb : EvL tb σ H ys) (hz : xs.length + ys.length ≤ 100000) : EvL (tOp rCat ta tb) σ H (xs ++ ys) := fun H1 e Q q =>
  ha H1 e _ fun a H2 _ e2 h1 => hb H2 (e.trans e2) _ fun b H3 _ e3 h2 => ⟨a, b, xs, ys, rfl, rfl, e3 a _ h1, h2, sz_of hz, fun p hp => q p _ (fresh_back (e2.trans e3) hp) ((e2.trans e3).trans (Ex.new hp)) upd_same⟩
theorem el_cat2 {a : Addr} {xs ys : List V} (ha : Ev ta σ H (.ref a)) (h1 : H a = some (.lst xs)) (hb : EvL tb σ H ys) (hz : xs.length + ys.length ≤ 100000) : EvL (tOp rCat ta tb) σ H (xs ++ ys) := fun H1 e Q q =>
  ha H1 e _ fun H2 e2 => hb H2 (e.trans e2) _ fun b H3 _ e3 h2 => ⟨a, b, xs, ys, rfl, rfl, ((e.trans e2).trans e3) a _ h1, h2, sz_of hz, fun p hp => q p _ (fresh_back (e2.trans e3) hp) ((e2.trans e3).trans (Ex.new hp)) upd_same⟩
/-- [x] * n -/
theorem el_rep {xs : List V} {n : Nat} (ha : EvL ta σ H xs) (hb : Ev tb σ H (.int (n : Int))) (hz : xs.length * n ≤ 100000) (hn : n ≤ 100000) : EvL (tOp rRep ta tb) σ H (List.replicate n xs).flatten := fun H1 e Q q =>
  ha H1 e _ fun a H2 _ e2 h1 => hb H2 (e.trans e2) _ fun H3 e3 => ⟨a, (n : Int), xs, rfl, rfl, e3 a _ h1, by omega, by omega, by rw [Int.toNat_natCast]; exact sz_of hz, fun p hp => by
    have := q p _ (fresh_back (e2.trans e3) hp) ((e2.trans e3).trans (Ex.new hp)) (upd_same (o := .lst (List.replicate n xs).flatten))
    rw [Int.toNat_natCast]
    exact this⟩
/-- x[i], x a list or tuple just made -/
theorem ev_ixN {xs : List V} {i : Int} {v : V} (ha : EvL ta σ H xs) (hb : Ev tb σ H (.int i)) (h : atI xs i = some v) : Ev (tOp (rIxL K) ta tb) σ H v :=
  ev_opL1 ha (fun _ e => hb.mono e) fun p H1 hp _ => rv_ixL (sq_of hp) h
end
/-! ### the lists of ends and uppers -/
def ensOf (ds : List Nat) : List Nat := (List.range ds.length).map (BM.endAt ds)
def upsOf (ds : List Nat) : List (Option Nat) := (List.range ds.length).map (BM.upAt ds)
theorem ensOf_len (ds : List Nat) : (ensOf ds).length = ds.length := by
  unfold ensOf
  rw [List.length_map, List.length_range]
theorem upsOf_len (ds : List Nat) : (upsOf ds).length = ds.length := by
  unfold upsOf
  rw [List.length_map, List.length_range]
theorem ensOf_at {ds : List Nat} {i : Nat} (h : i < ds.length) : (ensOf ds)[i]? = some (BM.endAt ds i) := by
  unfold ensOf
  rw [List.getElem?_map, List.getElem?_range h]
  rfl
theorem upsOf_at {ds : List Nat} {i : Nat} (h : i < ds.length) : (upsOf ds)[i]? = some (BM.upAt ds i) := by
  unfold upsOf
  rw [List.getElem?_map, List.getElem?_range h]
  rfl
end
end Bo
set_option Elab.async false
set_option linter.all false
set_option maxRecDepth 100000
set_option maxHeartbeats 4000000
namespace Bo
open PySem PySem.Spec PyProof.Rows L2 Evl BK BL
section
variable {P : Program} {w : World} {K : PySem.W.Frag} {mg : Str → Option Value} {base : Heap} {CD CQ CS CA : Addr}
/-! ### kinds of things -/
def spIsWhole : Sp := spV fun vs _ v => ∃ i : Int, vs = [.int i] ∧ v = .bl true
theorem sc_is_whole : FnScope ["thing"] ["thing"] (defScope s_is_whole) := ⟨rfl, rfl, rfl, by decide +kernel, rfl, by decide +kernel, by decide +kernel⟩
theorem fn_is_whole (T : Txt K mg CD CQ CS CA) : Fn P w K mg base "is_whole" 1 ["thing"] spIsWhole := by
  refine Fn.of T.g_is_whole sc_is_whole (fun _ _ _ _ _ _ us hl => match us, hl with | [_], _ => rfl) (fun vs H Q E h => ?_) (fun f cdv A outer s H vs Q E hr h => ?_)
  · obtain ⟨v, ⟨i, rfl, _⟩, _⟩ := h
    rfl
  · obtain ⟨v, ⟨i, rfl, rfl⟩, k⟩ := h
    refine ⟨_, (pss_one (ps_ret (pe_and (pe_callB call_isi (by rfl) T.z_isinstance (by decide +kernel) (pa_cons (pv 0) (pa_cons (pe_bltn (v := .ty "int") (by rfl) T.z_int (by decide +kernel) rfl) pa_nil))) (pe_one (pe_not (pe_callB call_isi (by rfl) T.z_isinstance (by decide +kernel) (pa_cons (pv 0) (pa_cons (pe_bltn (v := .ty "bool") (by rfl) T.z_bool (by decide +kernel) rfl) pa_nil)))))))), ?_⟩
    refine s_ret (ev_andV (ev_isi (ev_var rfl) (fun _ _ => .base (.int i)) (kit_ty (b := "int") (r := true) (by decide +kernel))) fun _ => ev_notV (ev_isi (ev_var rfl) (fun _ _ => .base (.int i)) (kit_ty (b := "bool") (r := false) (by decide +kernel)))) k
def spIsWithin : Sp := spV fun vs _ v => ∃ i lo hi : Int, vs = [.int i, .int lo, .int hi] ∧ v = .bl (decide (lo ≤ i) && decide (i ≤ hi))
theorem sc_is_within : FnScope ["thing", "low", "high"] ["thing", "low", "high"] (defScope s_is_within) := ⟨rfl, rfl, rfl, by decide +kernel, rfl, by decide +kernel, by decide +kernel⟩
theorem fn_is_within (T : Txt K mg CD CQ CS CA) : Fn P w K mg base "is_within" 2 ["thing", "low", "high"] spIsWithin := by
  refine Fn.of T.g_is_within sc_is_within (fun _ _ _ _ _ _ us hl => match us, hl with | [_, _, _], _ => rfl) (fun vs H Q E h => ?_) (fun f cdv A outer s H vs Q E hr h => ?_)
  · obtain ⟨v, ⟨i, lo, hi, rfl, _⟩, _⟩ := h
    rfl
  · obtain ⟨v, ⟨i, lo, hi, rfl, rfl⟩, k⟩ := h
    refine ⟨_, (pss_one (ps_ret (pe_and (Fn.pe (by exact fn_is_whole T) (hr.mono (by decide)) (by rfl) (pa_cons (pv 0) pa_nil)) (pe_one (pe_chain op_le op_le (pv 1) (pv 0) (pv 2)))))), ?_⟩
    refine s_ret (ev_andV (ev_callV (ea_cons (ev_var rfl) ea_nil) fun _ _ => ⟨i, rfl, rfl⟩) fun _ => et_chain (ev_var rfl) (ev_var rfl) (ev_var rfl) (rv_I0 (i := lo) (j := i)) fun _ => rv_I0 (i := i) (j := hi)) k
/-- a label -/
def isLab (z : Str) : Prop := 1 ≤ z.length ∧ z.length ≤ 8 ∧ ∀ c ∈ z.cps.toList, c ∈ letters.cps.toList
def spIsLabel : Sp := spV fun vs _ v => ∃ z : Str, vs = [.str z] ∧ isLab z ∧ v = .bl true
theorem sc_is_label : FnScope ["thing", "sign"] ["thing"] (defScope s_is_label) := ⟨rfl, rfl, rfl, by decide +kernel, rfl, by decide +kernel, by decide +kernel⟩
theorem fn_is_label (T : Txt K mg CD CQ CS CA) : Fn P w K mg base "is_label" 1 ["thing"] spIsLabel := by
  refine Fn.of T.g_is_label sc_is_label (fun _ _ _ _ _ _ us hl => match us, hl with | [_], _ => rfl) (fun vs H Q E h => ?_) (fun f cdv A outer s H vs Q E hr h => ?_)
  · obtain ⟨v, ⟨z, rfl, _⟩, _⟩ := h
    rfl
  · obtain ⟨v, ⟨z, rfl, hz, rfl⟩, k⟩ := h
    obtain ⟨tMOST_LETTERS, hMOST_LETTERS⟩ := T.c_MOST_LETTERS
    obtain ⟨tLETTERS, hLETTERS⟩ := T.c_LETTERS
    refine ⟨_, (pss_cons (ps_if (PW.pt (pw_or (pt_not (pt_val (pe_callB call_isi (by rfl) T.z_isinstance (by decide +kernel) (pa_cons (pv 0) (pa_cons (pe_bltn (v := .ty "str") (by rfl) T.z_str (by decide +kernel) rfl) pa_nil))))) (pw_or1 (pt_not (pt_chain op_le op_le pe_int (pe_callB call_len_str (by rfl) T.z_len (by decide +kernel) (pa_cons (pv 0) pa_nil)) (pe_glob (v := .int 8) (by rfl) hMOST_LETTERS ⟨_, rfl⟩)))))) (pss_one (ps_ret pe_bl)) pss_nil)
  (pss_one (ps_ret (pe_callB (cr_all rfl) (by rfl) T.z_all (by decide +kernel) (pa_cons (pe_lc (own := [("sign", 1)]) (g := (gName 1)) rfl sc_is_label.nd (pi_str (pv 0)) (blkOk_by (by kernel_rfl)) (fun _ _ _ _ _ => (pg_name (i := 1) sc_is_label.nd rfl (Or.inl rfl))) (fun _ _ _ _ _ => pts_nil) (fun _ _ _ _ _ => (pe_cmpR op_in_sign (pv 1) (pe_glob (v := .str letters) (by rfl) hLETTERS ⟨_, rfl⟩) (by rfl)))) pa_nil))))), ?_⟩
    obtain ⟨z1, z2, z3⟩ := hz
    refine q_when (b := false) (et_is (et_or (et_not (et_B (ev_isi (ev_var rfl) (fun _ _ => .base (.str z)) (kit_ty (b := "str") (r := true) (by decide +kernel))))) fun _ => et_not (et_test (et_chain (b1 := true) (b2 := true) ev_c (ev_lenS (ev_var rfl) (by omega)) ev_c (rv_I0' (by simp [z1]; omega)) fun _ => rv_I0' (by simp; omega)))) rfl) (fun q => by cases q) fun _ H1 e1 => ?_
    have hc := el_lcN (H := H1) (t := tYes) (te := tOp (fun x y H Q => ∃ (c : Nat) (z : Str), x = .str ⟨#[c]⟩ ∧ y = .str z ∧ Q (.bl (decide (c ∈ z.cps.toList))) H) (tVar 1) (tC (.str letters))) (σ := start ["thing", "sign"] [V.str z]) (ws := [1]) (j := 1) (fun _ => true) (fun _ => V.bl true) (n := z.cps.size) (by
        have : z.cps.size = z.length := rfl
        omega) (ei_str (ta := tVar 0) (ev_var rfl)) walk_str (fun _ _ => True.intro) (fun _ _ _ _ y => y.1) (fun _ => rfl) (fun i x H2 hi e y => by
        obtain ⟨_, c, hc, rfl⟩ := y
        have hm : c ∈ letters.cps.toList := z3 c (by
          rw [← Array.getElem?_toList] at hc
          exact List.mem_of_getElem? hc)
        exact ⟨fun H3 e3 Q q => q H3 (Ex.refl H3), fun _ H3 e3 Q q => ⟨_, rfl, c, letters, rfl, rfl, by
          have : decide (c ∈ letters.cps.toList) = true := decide_eq_true hm
          rw [this]
          exact q H3 (Ex.refl H3)⟩⟩)
    have hall : (List.replicate z.cps.size true).all id = true := by simp
    have hg : given z.cps.size (fun _ => true) (fun _ => V.bl true) = (List.replicate z.cps.size true).map V.bl := by
      unfold given
      rw [List.filter_eq_self.mpr (fun _ _ => rfl), List.map_replicate, List.map_const', List.length_range]
    rw [hg] at hc
    refine s_ret (ev_is (ev_all hc) (by rw [hall])) fun H2 e2 => k H2 (e1.trans e2)
end
end Bo
set_option Elab.async false
set_option linter.all false
set_option maxRecDepth 100000
set_option maxHeartbeats 4000000
namespace Bo
open PySem PySem.Spec PyProof.Rows L2 Evl BK BL
section
variable {P : Program} {w : World} {K : PySem.W.Frag} {mg : Str → Option Value} {base : Heap} {CD CQ CS CA : Addr}
/-! ### ends, uppers -/
/-- found[open.pop()] = e -/
theorem s_setPop {σ : L2.St} {H : Hp} {te : TE} {D : Ends} {a b : Nat} {pf po : Addr} {fs ss : List V} {j : Nat} {v : V} (ha : σ[a]? = some (some (.ref pf))) (hb : σ[b]? = some (some (.ref po))) (hf : H pf = some (.lst fs)) (ho : H po = some (.lst (ss ++ [.int (j : Int)]))) (ne : pf ≠ po)
    (hj : j < fs.length) (h : Ev te σ H v) (k : ∀ H1, Ex H H1 → D.nx σ (upd (upd H1 po (.lst ss)) pf (.lst (fs.set j v)))) : tAsg te (gSub (tVar a) (tBM0 K "list" rPop (tVar b)) rSetL) D σ H :=
  h H (Ex.refl H) _ fun H1 e1 => ⟨.ref pf, ha, .ref po, hb, .inl ⟨rfl, _, sq_of (e1 po _ ho)⟩, po, ss ++ [.int (j : Int)], .int (j : Int), rfl, rfl, e1 po _ ho, by simp, pf, fs, (j : Int), j, rfl, rfl, by rw [upd_ne ne]; exact e1 pf _ hf, ixN_nat hj, by
    rw [List.dropLast_concat]
    exact k H1 e1⟩
structure EndInv (ds : List Nat) (H0 : Hp) (pf po : Addr) (i t : Nat) (H' : Hp) (fnd : List Nat) : Prop where
  ex : Ex H0 H'
  f0 : H0 pf = none
  o0 : H0 po = none
  ne : pf ≠ po
  hf : H' pf = some (.lst (natV fnd))
  ho : H' po = some (.lst (natV ((BM.stk ds i).take t)))
  len : fnd.length = ds.length
  don : ∀ j, j < i → j ∉ (BM.stk ds i).take t → fnd[j]? = some (BM.endAt ds j)
theorem EndInv.mono {ds : List Nat} {H0 : Hp} {pf po : Addr} {i t : Nat} {H' H'' : Hp} {fnd : List Nat} (e : Ex H' H'') (I : EndInv ds H0 pf po i t H' fnd) : EndInv ds H0 pf po i t H'' fnd :=
  ⟨I.ex.trans e, I.f0, I.o0, I.ne, e _ _ I.hf, e _ _ I.ho, I.len, I.don⟩
theorem stk_le (ds : List Nat) : ∀ i, (BM.stk ds i).length ≤ i
  | 0 => Nat.le_refl 0
  | i + 1 => by
    have := stk_le ds i
    rw [BM.stk_succ, List.length_append, List.length_take, List.length_singleton]
    omega
theorem take_snoc {α : Type} {l : List α} {t : Nat} {j : α} (h : l[t]? = some j) : l.take (t + 1) = l.take t ++ [j] := by
  have ht := (List.getElem?_eq_some_iff.mp h)
  obtain ⟨h1, h2⟩ := ht
  rw [List.take_add_one, h]
  rfl
theorem EndInv.pop {ds : List Nat} {H0 : Hp} {pf po : Addr} {i t : Nat} {H' : Hp} {fnd : List Nat} (G : BM.Good ds) (hi : i ≤ ds.length) (I : EndInv ds H0 pf po i (t + 1) H' fnd) (ht : t < (BM.stk ds i).length) (hd : i < ds.length → BM.dep ds i ≤ t + 1) :
    ∃ j, natV ((BM.stk ds i).take (t + 1)) = natV ((BM.stk ds i).take t) ++ [.int (j : Int)] ∧ j < fnd.length ∧ 0 < i ∧
      ∀ H1, Ex H' H1 → EndInv ds H0 pf po i t (upd (upd H1 po (.lst (natV ((BM.stk ds i).take t)))) pf (.lst (natV (fnd.set j (i - 1))))) (fnd.set j (i - 1)) := by
  have hj : (BM.stk ds i)[t]? = some (BM.stk ds i)[t] := List.getElem?_eq_getElem ht
  obtain ⟨a, b, c⟩ := G.stk_at i hi t _ hj
  have tk := take_snoc hj
  refine ⟨(BM.stk ds i)[t], ?_, ?_, by omega, fun H1 e1 => ?_⟩
  · rw [tk, natV_append]
    rfl
  · rw [I.len]
    omega
  · have he : BM.endAt ds (BM.stk ds i)[t] = i - 1 := BM.end_eq (by omega) (by omega) (by omega) (fun m h1 h2 => by
      have := c m h1 (by omega)
      omega) (fun h => by
      have e : i - 1 + 1 = i := by omega
      rw [e] at h ⊢
      have := hd h
      omega)
    refine ⟨(Ex.mut (Ex.mut (I.ex.trans e1) I.o0) I.f0), I.f0, I.o0, I.ne, upd_same, ?_, by rw [List.length_set, I.len], fun j' hj' hn => ?_⟩
    · rw [upd_ne I.ne.symm]
      exact upd_same
    · by_cases z : j' = (BM.stk ds i)[t]
      · rw [z, List.getElem?_set_self (by rw [I.len]; omega), he]
      · rw [List.getElem?_set_ne (fun q => z q.symm)]
        refine I.don j' hj' fun hm => ?_
        rw [tk] at hm
        rcases List.mem_append.mp hm with q | q
        · exact hn q
        · exact z (List.mem_singleton.mp q)
def spEnds (K : PySem.W.Frag) : Sp := spN fun vs H P => ∃ (a : Addr) (ds : List Nat), vs = [.ref a] ∧ SqL K H a (natV ds) ∧ BM.Good ds ∧ ds.length ≤ 1000 ∧ P = fun p H2 => H2 p = some (.lst (natV (ensOf ds)))
theorem sc_ends_by : FnScope ["depths", "found", "open_places", "place", "depth"] ["depths"] (defScope s_ends_by) := ⟨rfl, rfl, rfl, by decide +kernel, rfl, by decide +kernel, by decide +kernel⟩
theorem fn_ends_by (T : Txt K mg CD CQ CS CA) : Fn P w K mg base "ends_by" 1 ["depths"] (spEnds K) := by
  refine Fn.of T.g_ends_by sc_ends_by (fun _ _ _ _ _ _ us hl => match us, hl with | [_], _ => rfl) (fun vs H Q E h => ?_) (fun f cdv A outer s H vs Q E hr h => ?_)
  · obtain ⟨P, ⟨a, ds, rfl, _⟩, _⟩ := h
    rfl
  · obtain ⟨P', ⟨a, ds, rfl, hS, G, hlen, rfl⟩, k⟩ := h
    refine ⟨_, (pss_cons (ps_set (i := 1) sc_ends_by.nd rfl (Or.inl rfl) (pe_op op_rep (pe_lst (pa_cons pe_int pa_nil)) (pe_callB call_len_seq (by rfl) T.z_len (by decide +kernel) (pa_cons (pv 0) pa_nil))))
  (pss_cons (ps_set (i := 2) sc_ends_by.nd rfl (Or.inl rfl) (pe_lst pa_nil))
  (pss_cons (ps_for PassesOwn.never rfl (pi_enum (by rfl) T.z_enumerate (pa_cons (pv 0) pa_nil)) (pg_tup rfl (pgs_cons (pg_name (i := 3) sc_ends_by.nd rfl (Or.inl rfl)) (pgs_cons (pg_name (i := 4) sc_ends_by.nd rfl (Or.inl rfl)) pgs_nil))) (pss_cons (ps_while PassesOwn.never (pt_cmpR op_ge (pe_callB call_len_seq (by rfl) T.z_len (by decide +kernel) (pa_cons (pv 2) pa_nil)) (pv 4) (nomark _)) (pss_one (ps_asg (pe_op op_sub (pv 3) pe_int) (pg_sub (pv 1) (pe_bm0 PySem.F.plainAttrs_list PySem.F.slot_list_pop PySem.F.type_list_pop mt_pop (pv 2)) set_list))))
  (pss_one (ps_expr (pe_bm PySem.F.plainAttrs_list PySem.F.slot_list_append PySem.F.type_list_append mt_append (pv 2) (pa_cons (pv 3) pa_nil))))))
  (pss_cons (ps_while PassesOwn.never (pt_cmpR (op_neD hr.units) (pv 2) (pe_lst pa_nil) (nomark _)) (pss_one (ps_asg (pe_op op_sub (pe_callB call_len_seq (by rfl) T.z_len (by decide +kernel) (pa_cons (pv 0) pa_nil)) pe_int) (pg_sub (pv 1) (pe_bm0 PySem.F.plainAttrs_list PySem.F.slot_list_pop PySem.F.type_list_pop mt_pop (pv 2)) set_list))))
  (pss_one (ps_ret (pv 1))))))), ?_⟩
    refine q_asgL (el_rep (n := ds.length) (el_lst (ea_cons ev_c ea_nil) (by decide)) (ev_is (ev_len (ev_var rfl) hS) (by rw [natV_len])) (by simp; omega) (by omega)) fun pf H1 f0 e1 hf => ?_
    refine q_asgL (el_lst ea_nil (by decide)) fun po H2 o1 e2 ho => ?_
    have ne : pf ≠ po := ne_of_none hf o1
    have hz : (List.replicate ds.length [V.int 0]).flatten = natV (List.replicate ds.length 0) := by
      unfold natV
      rw [List.map_replicate]
      generalize ds.length = n
      induction n with
      | zero => rfl
      | succ n ih => rw [List.replicate_succ, List.replicate_succ, List.flatten_cons, ih]; rfl
    have I0 : EndInv ds H pf po 0 (BM.stk ds 0).length H2 (List.replicate ds.length 0) :=
      ⟨e1.trans e2, f0, fresh_back e1 o1, ne, by rw [← hz]; exact e2 _ _ hf, ho, List.length_replicate, fun j hj => by omega⟩
    refine q_forI (ei_enum (ev_var rfl) (ex_l (e1.trans e2) hS)) walk_enum (fun i σ' H' => ∃ (fnd : List Nat) (v3 v4 : Option V), σ' = [some (.ref a), some (.ref pf), some (.ref po), v3, v4] ∧ EndInv ds H pf po i (BM.stk ds i).length H' fnd)
      (fun H3 e3 => ⟨_, none, none, rfl, I0.mono e3⟩) (fun i σ' H' _ ⟨_, _, _, _, I⟩ => ex_l I.ex hS) ?_ ?_
    · rintro i x σ' H' H'' hi ⟨fnd, v3, v4, rfl, I⟩ y
      rw [natV_len] at hi
      refine g_pair y fun u v hu hv e => ?_
      cases hu
      obtain ⟨d, hd, rfl⟩ := natV_back hv
      have ed : d = BM.dep ds i := Option.some.inj (hd.symm.trans (BM.dep_some hi))
      have I1 := I.mono e
      refine s_while (D := { nx := _, rt := _, bk := _, ct := _ }) (fun m σ2 H3 => ∃ fnd, σ2 = [some (.ref a), some (.ref pf), some (.ref po), some (.int (i : Int)), some (.int (d : Int))] ∧ m ≤ (BM.stk ds i).length ∧ BM.dep ds i - 1 ≤ m ∧ EndInv ds H pf po i m H3 fnd) (BM.stk ds i).length ⟨fnd, rfl, Nat.le_refl _, G.stk_ge hi, I1⟩ ?_
      rintro m σ2 H3 ⟨fnd2, rfl, hm1, hm2, I2⟩
      have hl : (natV ((BM.stk ds i).take m)).length = m := by
        rw [natV_len, List.length_take]
        omega
      refine ⟨decide ((d : Int) ≤ (m : Int)), et_test (ev_op (ev_is (ev_len (ev_var rfl) (sq_of I2.ho)) (by rw [hl])) (ev_var rfl) rv_I0), fun hb H4 e4 => ?_, fun hb H4 e4 => ?_⟩
      · have hb := of_decide_eq_true hb
        have g1 := G.one_le hi
        obtain ⟨t, rfl⟩ : ∃ t, m = t + 1 := ⟨m - 1, by omega⟩
        obtain ⟨j, hj1, hj2, hi0, hj3⟩ := I2.pop G (by omega) (by omega) (fun _ => by omega)
        refine ⟨fun σ3 H5 => ∃ fnd, σ3 = [some (.ref a), some (.ref pf), some (.ref po), some (.int (i : Int)), some (.int (d : Int))] ∧ t ≤ (BM.stk ds i).length ∧ BM.dep ds i - 1 ≤ t ∧ EndInv ds H pf po i t H5 fnd, fun σ3 H5 q => ⟨t, by omega, q⟩, ?_⟩
        refine s_setPop (pf := pf) (po := po) (v := .int ((i - 1 : Nat) : Int)) rfl rfl ((I2.mono e4).hf) (by rw [(I2.mono e4).ho, hj1]) ne (by rw [natV_len]; exact hj2) (ev_is (ev_op (ev_var rfl) ev_c rv_I0) (by show V.int ((i : Int) - 1) = _; congr 1; omega)) fun H5 e5 => ?_
        rw [← natV_set]
        exact ⟨_, rfl, by omega, by omega, hj3 H5 (e4.trans e5)⟩
      · have hb := of_decide_eq_false hb
        have em : m = BM.dep ds i - 1 := by omega
        have I3 := I2.mono e4
        refine s_app (xs := natV ((BM.stk ds i).take m)) I3.ho (ev_var rfl) (ev_var rfl) (by rw [hl]; have := stk_le ds i; omega) fun H5 e5 => ?_
        · have I4 := I3.mono e5
          have es : natV ((BM.stk ds i).take m) ++ [V.int (i : Int)] = natV (BM.stk ds (i + 1)) := by
            rw [BM.stk_succ, natV_append, em]
            rfl
          refine ⟨fnd2, _, _, rfl, Ex.mut I4.ex I4.o0, I4.f0, I4.o0, I4.ne, ?_, ?_, I4.len, fun j hj hn => ?_⟩
          · rw [upd_ne ne]
            exact I4.hf
          · rw [List.take_of_length_le (Nat.le_refl _), upd_same, es]
          · rw [List.take_of_length_le (Nat.le_refl _), BM.stk_succ] at hn
            have n1 : j ≠ i := fun q => hn (List.mem_append.mpr (.inr (by rw [q]; exact List.mem_cons_self)))
            exact I4.don j (by omega) fun q => hn (List.mem_append.mpr (.inl (by rw [← em]; exact q)))
    · rintro σ' H' ⟨fnd, v3, v4, rfl, I⟩
      rw [natV_len] at I
      refine q_while (fun m σ2 H3 => ∃ fnd, σ2 = [some (.ref a), some (.ref pf), some (.ref po), v3, v4] ∧ m ≤ (BM.stk ds ds.length).length ∧ EndInv ds H pf po ds.length m H3 fnd) _ ⟨fnd, rfl, Nat.le_refl _, I⟩ ?_
      rintro m σ2 H3 ⟨fnd2, rfl, hm1, I2⟩
      have hl : ((BM.stk ds ds.length).take m).length = m := by
        rw [List.length_take]
        omega
      refine ⟨!((BM.stk ds ds.length).take m).isEmpty, et_is (et_test (ev_ne_nil (xs := []) (ds := ((BM.stk ds ds.length).take m).map fun (n : Nat) => .int (n : Int)) (ev_var rfl) (fun H4 e4 => dp_of (sq_of (e4 _ _ I2.ho))) (shaped_ints _))) (by rw [List.isEmpty_map]), fun hb H4 e4 => ?_, fun hb H4 e4 => ?_⟩
      · have hm0 : 0 < m := by
          rcases Nat.eq_zero_or_pos m with z | z
          · rw [z, List.take_zero] at hb
            cases hb
          · exact z
        obtain ⟨t, rfl⟩ : ∃ t, m = t + 1 := ⟨m - 1, by omega⟩
        obtain ⟨j, hj1, hj2, hi0, hj3⟩ := I2.pop G (Nat.le_refl _) (by omega) (fun q => by omega)
        refine ⟨fun σ3 H5 => ∃ fnd, σ3 = [some (.ref a), some (.ref pf), some (.ref po), v3, v4] ∧ t ≤ (BM.stk ds ds.length).length ∧ EndInv ds H pf po ds.length t H5 fnd, fun σ3 H5 q => ⟨t, by omega, q⟩, ?_⟩
        refine s_setPop (pf := pf) (po := po) (v := .int ((ds.length - 1 : Nat) : Int)) rfl rfl ((I2.mono e4).hf) (by rw [(I2.mono e4).ho, hj1]) ne (by rw [natV_len]; exact hj2) (ev_is (ev_op (ev_len (ev_var rfl) (ex_l (I2.mono e4).ex hS)) ev_c rv_I0) (by show V.int (((natV ds).length : Int) - 1) = _; rw [natV_len]; congr 1; omega)) fun H5 e5 => ?_
        rw [← natV_set]
        exact ⟨_, rfl, by omega, hj3 H5 (e4.trans e5)⟩
      · have hm0 : ((BM.stk ds ds.length).take m) = [] := by
          cases q : (BM.stk ds ds.length).take m with
          | nil => rfl
          | cons x r => rw [q] at hb; cases hb
        have I3 := I2.mono e4
        have ef : fnd2 = ensOf ds := by
          apply List.ext_getElem?
          intro j
          by_cases hj : j < ds.length
          · rw [ensOf_at hj]
            exact I3.don j hj (by rw [hm0]; simp)
          · rw [List.getElem?_eq_none (by rw [I3.len]; omega), List.getElem?_eq_none (by rw [ensOf_len]; omega)]
        refine s_ret (ev_var rfl) fun H5 e5 => k pf H5 I3.f0 (I3.ex.trans e5) ?_
        rw [← ef]
        exact e5 _ _ I3.hf
end
end Bo
set_option Elab.async false
set_option linter.all false
set_option maxRecDepth 100000
set_option maxHeartbeats 4000000
namespace Bo
open PySem PySem.Spec PyProof.Rows L2 Evl BK BL
section
variable {P : Program} {w : World} {K : PySem.W.Frag} {mg : Str → Option Value} {base : Heap} {CD CQ CS CA : Addr}
def spUps (K : PySem.W.Frag) : Sp := spN fun vs H P => ∃ (a : Addr) (ds : List Nat), vs = [.ref a] ∧ SqL K H a (natV ds) ∧ BM.Good ds ∧ ds.length ≤ 1000 ∧ P = fun p H2 => H2 p = some (.lst (optsV (upsOf ds)))
def upsTo (ds : List Nat) (i : Nat) : List (Option Nat) := (List.range i).map (BM.upAt ds)
theorem upsTo_succ (ds : List Nat) (i : Nat) : optsV (upsTo ds i) ++ [optV (BM.upAt ds i)] = optsV (upsTo ds (i + 1)) := by
  unfold upsTo optsV
  rw [List.range_succ, List.map_append, List.map_append]
  rfl
theorem upsTo_len (ds : List Nat) (i : Nat) : (upsTo ds i).length = i := by
  unfold upsTo
  rw [List.length_map, List.length_range]
/-- the item that tells the upper -/
theorem up_item {ds : List Nat} (G : BM.Good ds) {i : Nat} (hi : i < ds.length) : atI (natV ((BM.stk ds i).take (BM.dep ds i - 1)) ++ [V.non]) ((BM.dep ds i : Int) - 2) = some (optV (BM.upAt ds i)) := by
  have h1 := G.one_le hi
  have hl := G.take_len hi
  by_cases h : BM.dep ds i = 1
  · have e : (BM.stk ds i).take (BM.dep ds i - 1) = [] := by
      rw [h]
      rfl
    have e2 : BM.upAt ds i = none := by
      unfold BM.upAt
      rw [if_pos (by omega)]
    rw [e, e2, h]
    rfl
  · have e2 : BM.upAt ds i = (BM.stk ds i)[BM.dep ds i - 2]? := by
      unfold BM.upAt
      rw [if_neg (by omega)]
    have hs := G.stk_ge hi
    have hlt : BM.dep ds i - 2 < (BM.stk ds i).length := by omega
    have e3 : (BM.stk ds i)[BM.dep ds i - 2]? = some (BM.stk ds i)[BM.dep ds i - 2] := List.getElem?_eq_getElem hlt
    rw [e2, e3]
    refine at_nat (j := BM.dep ds i - 2) (by omega) ?_
    rw [List.getElem?_append_left (by rw [natV_len, hl]; omega)]
    refine natV_at ?_
    rw [List.getElem?_take_of_lt (by omega), e3]
theorem sc_uppers_by : FnScope ["depths", "found", "ways", "place", "depth"] ["depths"] (defScope s_uppers_by) := ⟨rfl, rfl, rfl, by decide +kernel, rfl, by decide +kernel, by decide +kernel⟩
theorem fn_uppers_by (T : Txt K mg CD CQ CS CA) : Fn P w K mg base "uppers_by" 1 ["depths"] (spUps K) := by
  refine Fn.of T.g_uppers_by sc_uppers_by (fun _ _ _ _ _ _ us hl => match us, hl with | [_], _ => rfl) (fun vs H Q E h => ?_) (fun f cdv A outer s H vs Q E hr h => ?_)
  · obtain ⟨P, ⟨a, ds, rfl, _⟩, _⟩ := h
    rfl
  · obtain ⟨P', ⟨a, ds, rfl, hS, G, hlen, rfl⟩, k⟩ := h
    refine ⟨_, (pss_cons (ps_set (i := 1) sc_uppers_by.nd rfl (Or.inl rfl) (pe_lst pa_nil))
  (pss_cons (ps_set (i := 2) sc_uppers_by.nd rfl (Or.inl rfl) (pe_lst pa_nil))
  (pss_cons (ps_for PassesOwn.never rfl (pi_enum (by rfl) T.z_enumerate (pa_cons (pv 0) pa_nil)) (pg_tup rfl (pgs_cons (pg_name (i := 3) sc_uppers_by.nd rfl (Or.inl rfl)) (pgs_cons (pg_name (i := 4) sc_uppers_by.nd rfl (Or.inl rfl)) pgs_nil))) (pss_cons (ps_set (i := 2) sc_uppers_by.nd rfl (Or.inl rfl) (pe_slice sl_list (pv 2) po_none (po_some (pe_op op_sub (pv 4) pe_int))))
  (pss_cons (ps_expr (pe_bm PySem.F.plainAttrs_list PySem.F.slot_list_append PySem.F.type_list_append mt_append (pv 1) (pa_cons (pe_ix ix_list (pe_op op_cat (pv 2) (pe_lst (pa_cons pe_non pa_nil))) (pe_op op_sub (pe_callB call_len_seq (by rfl) T.z_len (by decide +kernel) (pa_cons (pv 2) pa_nil)) pe_int) (fun _ _ => rfl)) pa_nil)))
  (pss_one (ps_expr (pe_bm PySem.F.plainAttrs_list PySem.F.slot_list_append PySem.F.type_list_append mt_append (pv 2) (pa_cons (pv 3) pa_nil)))))))
  (pss_one (ps_ret (pv 1)))))), ?_⟩
    refine q_asgL (el_lst ea_nil (by decide)) fun pf H1 f0 e1 hf => ?_
    refine q_asgL (el_lst ea_nil (by decide)) fun pw H2 w0 e2 hw => ?_
    refine q_forI (ei_enum (ev_var rfl) (ex_l (e1.trans e2) hS)) walk_enum (fun i σ' H' => ∃ (pw : Addr) (v3 v4 : Option V), σ' = [some (.ref a), some (.ref pf), some (.ref pw), v3, v4] ∧ Ex H H' ∧ H pw = none ∧ pf ≠ pw ∧ H' pf = some (.lst (optsV (upsTo ds i))) ∧ H' pw = some (.lst (natV (BM.stk ds i))))
      (fun H3 e3 => ⟨pw, none, none, rfl, (e1.trans e2).trans e3, fresh_back e1 w0, ne_of_none hf w0, e3 _ _ (e2 _ _ hf), e3 _ _ hw⟩) (fun i σ' H' _ ⟨_, _, _, _, e, _⟩ => ex_l e hS) ?_ ?_
    · rintro i x σ' H' H'' hi ⟨pw, v3, v4, rfl, e, w0, ne, hf, hw⟩ y
      rw [natV_len] at hi
      refine g_pair y fun u v hu hv e' => ?_
      cases hu
      obtain ⟨d, hd, rfl⟩ := natV_back hv
      have ed : d = BM.dep ds i := Option.some.inj (hd.symm.trans (BM.dep_some hi))
      have g1 := G.one_le hi
      have hl := G.take_len hi
      have sl := stk_le ds i
      have sg := G.stk_ge hi
      refine q_asgL (xs := natV ((BM.stk ds i).take (BM.dep ds i - 1))) (by
        have := el_sl (K := K) (σ := [some (.ref a), some (.ref pf), some (.ref pw), some (V.int (i : Int)), some (V.int (d : Int))]) (te := tVar 2) (tl := tNoPart) (th := tPart (tOp (rI0 fun i j => .int (i - j)) (tVar 4) (tC (.int 1)))) (H := H'') (lo := none) (hi := some ((BM.dep ds i - 1 : Nat) : Int)) (ev_var rfl) eo_none (eo_some (ev_is (ev_op (ev_var rfl) ev_c rv_I0) (by show V.int ((d : Int) - 1) = _; congr 1; omega))) (sq_of (e' _ _ hw))
        rw [cut_to, ← natV_take] at this
        exact this) fun pv H3 pv0 e3 hv3 => ?_
      have e13 : Ex H H3 := (e.trans e').trans e3
      have hf3 : H3 pf = some (.lst (optsV (upsTo ds i))) := e3 _ _ (e' _ _ hf)
      have nfv : pf ≠ pv := ne_of_none (e' _ _ hf) pv0
      refine q_app (v := optV (BM.upAt ds i)) hf3 (ev_var rfl) (ev_ixN (el_cat2 (ev_var rfl) hv3 (el_lst (ea_cons ev_c ea_nil) (by decide)) (by rw [natV_len, hl, List.length_singleton]; omega)) (ev_is (ev_op (ev_len (ev_var rfl) (sq_of hv3)) ev_c rv_I0) (by show V.int (((natV ((BM.stk ds i).take (BM.dep ds i - 1))).length : Int) - 1) = V.int ((BM.dep ds i : Int) - 2); rw [natV_len, hl]; congr 1; omega)) (up_item G hi)) (by rw [optsV_len, upsTo_len]; omega) fun H4 e4 => ?_
      have hv4 : upd H4 pf (.lst (optsV (upsTo ds i) ++ [optV (BM.upAt ds i)])) pv = some (.lst (natV ((BM.stk ds i).take (BM.dep ds i - 1)))) := by
        rw [upd_ne nfv.symm]
        exact e4 _ _ hv3
      have pf0 : H pf = none := f0
      have pv00 : H pv = none := fresh_back (e.trans e') pv0
      refine s_app hv4 (ev_var rfl) (ev_var rfl) (by rw [natV_len, hl]; omega) fun H5 e5 => ?_
      refine ⟨pv, _, _, rfl, Ex.mut ((Ex.mut (e13.trans e4) pf0).trans e5) pv00, pv00, nfv, ?_, ?_⟩
      · rw [upd_ne nfv]
        refine e5 _ _ ?_
        rw [upd_same, upsTo_succ]
      · rw [upd_same, BM.stk_succ, natV_append]
        rfl
    · rintro σ' H' ⟨pw, v3, v4, rfl, e, w0, ne, hf, hw⟩
      rw [natV_len] at hf
      exact s_ret (ev_var rfl) fun H5 e5 => k pf H5 f0 (e.trans e5) (e5 _ _ hf)
theorem sc_law_uppers : FnScope ["_law_depths", "_law_uppers_here", "_law_line", "_law_k", "_law_depth_here"] ["_law_depths"] (defScope s__law_uppers) := ⟨rfl, rfl, rfl, by decide +kernel, rfl, by decide +kernel, by decide +kernel⟩
theorem fn__law_uppers (T : Txt K mg CD CQ CS CA) : Fn P w K mg base "_law_uppers" 1 ["_law_depths"] (spUps K) := by
  refine Fn.of T.g__law_uppers sc_law_uppers (fun _ _ _ _ _ _ us hl => match us, hl with | [_], _ => rfl) (fun vs H Q E h => ?_) (fun f cdv A outer s H vs Q E hr h => ?_)
  · obtain ⟨P, ⟨a, ds, rfl, _⟩, _⟩ := h
    rfl
  · obtain ⟨P', ⟨a, ds, rfl, hS, G, hlen, rfl⟩, k⟩ := h
    refine ⟨_, (pss_cons (ps_set (i := 1) sc_law_uppers.nd rfl (Or.inl rfl) (pe_lst pa_nil))
  (pss_cons (ps_set (i := 2) sc_law_uppers.nd rfl (Or.inl rfl) (pe_lst pa_nil))
  (pss_cons (ps_for PassesOwn.never rfl (pi_enum (by rfl) T.z_enumerate (pa_cons (pv 0) pa_nil)) (pg_tup rfl (pgs_cons (pg_name (i := 3) sc_law_uppers.nd rfl (Or.inl rfl)) (pgs_cons (pg_name (i := 4) sc_law_uppers.nd rfl (Or.inl rfl)) pgs_nil))) (pss_cons (ps_set (i := 2) sc_law_uppers.nd rfl (Or.inl rfl) (pe_op op_cat (pe_slice sl_list (pv 2) po_none (po_some (pe_op op_sub (pv 4) pe_int))) (pe_lst (pa_cons (pv 3) pa_nil))))
  (pss_one (ps_expr (pe_bm PySem.F.plainAttrs_list PySem.F.slot_list_append PySem.F.type_list_append mt_append (pv 1) (pa_cons (pe_ix ix_list (pe_lst (pa_cons pe_non (pa_cons (pe_ix ix_list (pe_op op_cat (pv 2) (pv 2)) (pe_op op_sub (pv 4) pe_int) (fun _ _ => rfl)) pa_nil))) (pe_callTy call_int1 (by rfl) T.z_int (by decide +kernel) (pa_cons (pe_cmpR op_gt (pv 4) pe_int (nomark _)) pa_nil)) (fun _ _ => rfl)) pa_nil))))))
  (pss_one (ps_ret (pv 1)))))), ?_⟩
    refine q_asgL (el_lst ea_nil (by decide)) fun pf H1 f0 e1 hf => ?_
    refine q_asgL (el_lst ea_nil (by decide)) fun pw H2 w0 e2 hw => ?_
    refine q_forI (ei_enum (ev_var rfl) (ex_l (e1.trans e2) hS)) walk_enum (fun i σ' H' => ∃ (pw : Addr) (v3 v4 : Option V), σ' = [some (.ref a), some (.ref pf), some (.ref pw), v3, v4] ∧ Ex H H' ∧ H pw = none ∧ pf ≠ pw ∧ H' pf = some (.lst (optsV (upsTo ds i))) ∧ H' pw = some (.lst (natV (BM.stk ds i))))
      (fun H3 e3 => ⟨pw, none, none, rfl, (e1.trans e2).trans e3, fresh_back e1 w0, ne_of_none hf w0, e3 _ _ (e2 _ _ hf), e3 _ _ hw⟩) (fun i σ' H' _ ⟨_, _, _, _, e, _⟩ => ex_l e hS) ?_ ?_
    · rintro i x σ' H' H'' hi ⟨pw, v3, v4, rfl, e, w0, ne, hf, hw⟩ y
      rw [natV_len] at hi
      refine g_pair y fun u v hu hv e' => ?_
      cases hu
      obtain ⟨d, hd, rfl⟩ := natV_back hv
      have ed : d = BM.dep ds i := Option.some.inj (hd.symm.trans (BM.dep_some hi))
      have g1 := G.one_le hi
      have hl := G.take_len hi
      have sl := stk_le ds i
      have sg := G.stk_ge hi
      have es : natV ((BM.stk ds i).take (BM.dep ds i - 1)) ++ [V.int (i : Int)] = natV (BM.stk ds (i + 1)) := by
        rw [BM.stk_succ, natV_append]
        rfl
      refine q_asgL (xs := natV (BM.stk ds (i + 1))) (by
        have := el_sl (K := K) (σ := [some (.ref a), some (.ref pf), some (.ref pw), some (V.int (i : Int)), some (V.int (d : Int))]) (te := tVar 2) (tl := tNoPart) (th := tPart (tOp (rI0 fun i j => .int (i - j)) (tVar 4) (tC (.int 1)))) (H := H'') (lo := none) (hi := some ((BM.dep ds i - 1 : Nat) : Int)) (ev_var rfl) eo_none (eo_some (ev_is (ev_op (ev_var rfl) ev_c rv_I0) (by show V.int ((d : Int) - 1) = _; congr 1; omega))) (sq_of (e' _ _ hw))
        rw [cut_to, ← natV_take] at this
        have h2 := el_catN this (el_lst (vs := [V.int (i : Int)]) (ea_cons (ev_var (i := 3) rfl) ea_nil) (by simp)) (by rw [natV_len, hl, List.length_singleton]; omega)
        rw [es] at h2
        exact h2) fun pv H3 pv0 e3 hv3 => ?_
      have e13 : Ex H H3 := (e.trans e').trans e3
      have hf3 : H3 pf = some (.lst (optsV (upsTo ds i))) := e3 _ _ (e' _ _ hf)
      have nfv : pf ≠ pv := ne_of_none (e' _ _ hf) pv0
      have hl2 := G.stk_len i hi
      obtain ⟨z, hz, hz2⟩ : ∃ z : V, atI (natV (BM.stk ds (i + 1)) ++ natV (BM.stk ds (i + 1))) ((BM.dep ds i : Int) - 2) = some z ∧ (1 < BM.dep ds i → z = optV (BM.upAt ds i)) := by
        by_cases h : BM.dep ds i = 1
        · have hlast : (natV (BM.stk ds (i + 1)) ++ natV (BM.stk ds (i + 1))) = (natV (BM.stk ds (i + 1)) ++ natV ((BM.stk ds i).take (BM.dep ds i - 1))) ++ [V.int (i : Int)] := by
            rw [List.append_assoc, es]
          exact ⟨.int (i : Int), by rw [hlast, h]; exact atI_last _ _, fun q => by omega⟩
        · have hs := G.stk_ge hi
          have hlt : BM.dep ds i - 2 < (BM.stk ds i).length := by omega
          have e3 : (BM.stk ds i)[BM.dep ds i - 2]? = some (BM.stk ds i)[BM.dep ds i - 2] := List.getElem?_eq_getElem hlt
          have e2 : BM.upAt ds i = some (BM.stk ds i)[BM.dep ds i - 2] := by
            unfold BM.upAt
            rw [if_neg (by omega), e3]
          refine ⟨optV (BM.upAt ds i), at_nat (j := BM.dep ds i - 2) (by omega) ?_, fun _ => rfl⟩
          rw [List.getElem?_append_left (by rw [natV_len, hl2]; omega), e2]
          refine natV_at ?_
          rw [BM.stk_succ, List.getElem?_append_left (by rw [hl]; omega), List.getElem?_take_of_lt (by omega), e3]
      refine s_app (v := optV (BM.upAt ds i)) hf3 (ev_var rfl) (ev_ixN (i := if decide ((1 : Int) < (d : Int)) = true then 1 else 0) (el_lst (ea_cons ev_c (ea_cons (ev_ixN (el_cat (ev_var rfl) (ev_var rfl) hv3 hv3 (by rw [natV_len, hl2]; have := stk_le ds (i + 1); omega)) (ev_is (ev_op (ev_var rfl) ev_c rv_I0) (by show V.int ((d : Int) - 2) = V.int ((BM.dep ds i : Int) - 2); rw [ed])) hz) ea_nil)) (by simp)) (ev_int1 (ev_op (ev_var rfl) ev_c rv_I0)) (by
          by_cases h : BM.dep ds i = 1
          · have e2 : BM.upAt ds i = none := by
              unfold BM.upAt
              rw [if_pos (by omega)]
            rw [e2, if_neg (by simp; omega)]
            rfl
          · rw [if_pos (by simp; omega), hz2 (by omega)]
            rfl)) (by rw [optsV_len, upsTo_len]; omega) fun H4 e4 => ?_
      have pv00 : H pv = none := fresh_back (e.trans e') pv0
      refine ⟨pv, _, _, rfl, Ex.mut (e13.trans e4) f0, pv00, nfv, ?_, ?_⟩
      · rw [upd_same, upsTo_succ]
      · rw [upd_ne nfv.symm]
        exact e4 _ _ hv3
    · rintro σ' H' ⟨pw, v3, v4, rfl, e, w0, ne, hf, hw⟩
      rw [natV_len] at hf
      exact s_ret (ev_var rfl) fun H5 e5 => k pf H5 f0 (e.trans e5) (e5 _ _ hf)
end
end Bo
set_option Elab.async false
set_option linter.all false
set_option maxRecDepth 100000
set_option maxHeartbeats 4000000
namespace Bo
open PySem PySem.Spec PyProof.Rows L2 Evl BK BL
section
variable {P : Program} {w : World} {K : PySem.W.Frag} {mg : Str → Option Value} {base : Heap} {CD CQ CS CA : Addr}
/-! ### lists of tuples; documents, questions as objects -/
abbrev refsV (as : List Addr) : List V := as.map V.ref
structure Tups (K : PySem.W.Frag) (H : Hp) (as : List Addr) (rs : List (List V)) : Prop where
  len : as.length = rs.length
  at_ : ∀ (i : Nat) (a : Addr) (r : List V), as[i]? = some a → rs[i]? = some r → SqT K H a r
def RowsAt (K : PySem.W.Frag) (H : Hp) (a : Addr) (rs : List (List V)) : Prop := ∃ as, SqL K H a (refsV as) ∧ Tups K H as rs
/-- all but x is as it was -/
def ExB (x : Addr) (H H' : Hp) : Prop := ∀ b o, b ≠ x → H b = some o → H' b = some o
section
variable {H H' H1 : Hp} {a x : Addr} {rs : List (List V)} {as : List Addr} {xs : List V}
theorem Tups.mono (e : Ex H H') (t : Tups K H as rs) : Tups K H' as rs := ⟨t.len, fun i a r h1 h2 => ex_t e (t.at_ i a r h1 h2)⟩
theorem RowsAt.mono (e : Ex H H') (t : RowsAt K H a rs) : RowsAt K H' a rs := let ⟨as, h1, h2⟩ := t; ⟨as, ex_l e h1, h2.mono e⟩
theorem RowsAt.len (t : RowsAt K H a rs) : ∃ as, SqL K H a (refsV as) ∧ as.length = rs.length := let ⟨as, h1, h2⟩ := t; ⟨as, h1, h2.len⟩
theorem ExB.of (e : Ex H H') : ExB x H H' := fun b o _ h => e b o h
theorem ExB.refl : ExB x H H := fun _ _ _ h => h
theorem ExB.trans (a : ExB x H H1) (b : ExB x H1 H') : ExB x H H' := fun c o n h => b c o n (a c o n h)
theorem ExB.upd {o : HO} (e : ExB x H H') : ExB x H (L2.upd H' x o) := fun b u n h => by
  rw [upd_ne n]
  exact e b u n h
theorem exb_rd {u : HO} (e : ExB x H H') (n : a ≠ x) (h : Rd H a u) : Rd H' a u := by
  rcases h with h | ⟨o, h⟩
  · exact .inl (e a _ n h)
  · exact .inr ⟨o, e a _ n h⟩
theorem exb_l {C dx : Addr} {fs : List (Str × V)} (e : ExB x H H') (hx : H x = some (.ins C dx fs)) (h : SqL K H a xs) : SqL K H' a xs := by
  rcases h with h | h
  · refine .inl (exb_rd e (fun z => ?_) h)
    rw [z] at h
    rcases h with h | ⟨o, h⟩ <;> rw [hx] at h <;> cases h
  · exact .inr h
theorem exb_t {C dx : Addr} {fs : List (Str × V)} (e : ExB x H H') (hx : H x = some (.ins C dx fs)) (h : SqT K H a xs) : SqT K H' a xs := by
  rcases h with h | h
  · refine .inl (exb_rd e (fun z => ?_) h)
    rw [z] at h
    rcases h with h | ⟨o, h⟩ <;> rw [hx] at h <;> cases h
  · exact .inr h
theorem Tups.exb {C dx : Addr} {fs : List (Str × V)} (e : ExB x H H') (hx : H x = some (.ins C dx fs)) (t : Tups K H as rs) : Tups K H' as rs := ⟨t.len, fun i a r h1 h2 => exb_t e hx (t.at_ i a r h1 h2)⟩
theorem tyx_l (h : SqL K H a xs) : TyX K H (.ref a) (.type "list") := by
  rcases h with (h | ⟨o, h⟩) | ⟨o, its, n, h1, h2, _⟩
  · exact .base (.lst h)
  · exact .base (.frz h)
  · exact .kList h1 h2
theorem tyx_t (h : SqT K H a xs) : TyX K H (.ref a) (.type "tuple") := by
  rcases h with (h | ⟨o, h⟩) | ⟨o, its, n, h1, h2, _⟩
  · exact .base (.tup h)
  · exact .fTuple h
  · exact .kTuple h1 h2
end
/-! rows -/
abbrev DR := Str × Nat
abbrev QR := Bool × Str × Nat
def wayS (b : Bool) : Str := if b = true then "//" else "/"
def rowD (r : DR) : List V := [.str r.1, .int (r.2 : Int)]
def rowQ (r : QR) : List V := [.str (wayS r.1), .str r.2.1, .int (r.2.2 : Int)]
structure OkD (rows : List DR) : Prop where
  good : BM.Good (BM.dds rows)
  many : rows.length ≤ 240
  lab : ∀ r ∈ rows, isLab r.1
  deep : ∀ r ∈ rows, r.2 ≤ 80
structure OkQ (rows : List QR) : Prop where
  good : BM.Good (BM.qds rows)
  many : rows.length ≤ 100
  lab : ∀ r ∈ rows, isLab r.2.1
  deep : ∀ r ∈ rows, r.2.2 ≤ 30
theorem OkD.pos {rows : List DR} (O : OkD rows) : 0 < rows.length := by
  have := O.good.pos
  rw [BM.dds_len] at this
  exact this
theorem OkQ.pos {rows : List QR} (O : OkQ rows) : 0 < rows.length := by
  have := O.good.pos
  rw [BM.qds_len] at this
  exact this
/-! the document -/
def docF (t e u : Addr) : List (Str × V) := putF "uppers" (.ref u) (putF "ends" (.ref e) (putF "parts" (.ref t) []))
theorem docF_parts (t e u : Addr) : (docF t e u).lookup ("parts" : Str) = some (.ref t) := by
  unfold docF
  rw [lookup_putF, if_neg (by decide +kernel), lookup_putF, if_neg (by decide +kernel), lookup_putF, if_pos rfl]
theorem docF_ends (t e u : Addr) : (docF t e u).lookup ("ends" : Str) = some (.ref e) := by
  unfold docF
  rw [lookup_putF, if_neg (by decide +kernel), lookup_putF, if_pos rfl]
theorem docF_uppers (t e u : Addr) : (docF t e u).lookup ("uppers" : Str) = some (.ref u) := by
  unfold docF
  rw [lookup_putF, if_pos rfl]
theorem docF_no (t e u : Addr) {m : Str} (h1 : ¬ m = "uppers") (h2 : ¬ m = "ends") (h3 : ¬ m = "parts") : (docF t e u).lookup m = none := by
  unfold docF
  rw [lookup_putF, if_neg h1, lookup_putF, if_neg h2, lookup_putF, if_neg h3]
  rfl
structure DocAt (K : PySem.W.Frag) (CD : Addr) (H : Hp) (a : Addr) (rows : List DR) (dx t e u : Addr) (as : List Addr) : Prop where
  ob : H a = some (.ins CD dx (docF t e u))
  parts : SqT K H t (refsV as)
  tups : Tups K H as (rows.map rowD)
  ends : SqL K H e (natV (ensOf (BM.dds rows)))
  ups : SqL K H u (optsV (upsOf (BM.dds rows)))
def DocOb (K : PySem.W.Frag) (CD : Addr) (H : Hp) (a : Addr) (rows : List DR) : Prop := ∃ dx t e u as, DocAt K CD H a rows dx t e u as
theorem DocAt.mono {CD : Addr} {H H' : Hp} {a : Addr} {rows : List DR} {dx t e u : Addr} {as : List Addr} (x : Ex H H') (d : DocAt K CD H a rows dx t e u as) : DocAt K CD H' a rows dx t e u as :=
  ⟨x _ _ d.ob, ex_t x d.parts, d.tups.mono x, ex_l x d.ends, ex_l x d.ups⟩
theorem DocOb.mono {CD : Addr} {H H' : Hp} {a : Addr} {rows : List DR} (x : Ex H H') (d : DocOb K CD H a rows) : DocOb K CD H' a rows :=
  let ⟨dx, t, e, u, as, h⟩ := d; ⟨dx, t, e, u, as, h.mono x⟩
/-! the question -/
def queF (g : Addr) (w : Int) (s e u : Addr) : List (Str × V) := putF "uppers" (.ref u) (putF "ends" (.ref e) (putF "steps" (.ref s) (putF "goal" (.int w) (putF "given_rows" (.ref g) []))))
theorem queF_rows (g : Addr) (w : Int) (s e u : Addr) : (queF g w s e u).lookup ("given_rows" : Str) = some (.ref g) := by
  unfold queF
  rw [lookup_putF, if_neg (by decide +kernel), lookup_putF, if_neg (by decide +kernel), lookup_putF, if_neg (by decide +kernel), lookup_putF, if_neg (by decide +kernel), lookup_putF, if_pos rfl]
theorem queF_goal (g : Addr) (w : Int) (s e u : Addr) : (queF g w s e u).lookup ("goal" : Str) = some (.int w) := by
  unfold queF
  rw [lookup_putF, if_neg (by decide +kernel), lookup_putF, if_neg (by decide +kernel), lookup_putF, if_neg (by decide +kernel), lookup_putF, if_pos rfl]
theorem queF_steps (g : Addr) (w : Int) (s e u : Addr) : (queF g w s e u).lookup ("steps" : Str) = some (.ref s) := by
  unfold queF
  rw [lookup_putF, if_neg (by decide +kernel), lookup_putF, if_neg (by decide +kernel), lookup_putF, if_pos rfl]
theorem queF_ends (g : Addr) (w : Int) (s e u : Addr) : (queF g w s e u).lookup ("ends" : Str) = some (.ref e) := by
  unfold queF
  rw [lookup_putF, if_neg (by decide +kernel), lookup_putF, if_pos rfl]
theorem queF_uppers (g : Addr) (w : Int) (s e u : Addr) : (queF g w s e u).lookup ("uppers" : Str) = some (.ref u) := by
  unfold queF
  rw [lookup_putF, if_pos rfl]
theorem queF_no (g : Addr) (w : Int) (s e u : Addr) {m : Str} (h1 : ¬ m = "uppers") (h2 : ¬ m = "ends") (h3 : ¬ m = "steps") (h4 : ¬ m = "goal") (h5 : ¬ m = "given_rows") : (queF g w s e u).lookup m = none := by
  unfold queF
  rw [lookup_putF, if_neg h1, lookup_putF, if_neg h2, lookup_putF, if_neg h3, lookup_putF, if_neg h4, lookup_putF, if_neg h5]
  rfl
def stepF (l : Str) : List (Str × V) := putF "label" (.str l) []
theorem stepF_lab (l : Str) : (stepF l).lookup ("label" : Str) = some (.str l) := by
  unfold stepF
  rw [lookup_putF, if_pos rfl]
theorem stepF_no (l : Str) {m : Str} (h : ¬ m = "label") : (stepF l).lookup m = none := by
  unfold stepF
  rw [lookup_putF, if_neg h]
  rfl
def StepOb (CS CA : Addr) (H : Hp) (a : Addr) (r : QR) : Prop := ∃ dx, H a = some (.ins (if r.1 = true then CA else CS) dx (stepF r.2.1))
structure Stps (CS CA : Addr) (H : Hp) (ss : List Addr) (rows : List QR) : Prop where
  len : ss.length = rows.length
  at_ : ∀ (i : Nat) (a : Addr) (r : QR), ss[i]? = some a → rows[i]? = some r → StepOb CS CA H a r
theorem StepOb.mono {CS CA : Addr} {H H' : Hp} {a : Addr} {r : QR} (e : Ex H H') (h : StepOb CS CA H a r) : StepOb CS CA H' a r := let ⟨dx, k⟩ := h; ⟨dx, e _ _ k⟩
theorem Stps.mono {CS CA : Addr} {H H' : Hp} {ss : List Addr} {rows : List QR} (e : Ex H H') (t : Stps CS CA H ss rows) : Stps CS CA H' ss rows := ⟨t.len, fun i a r h1 h2 => (t.at_ i a r h1 h2).mono e⟩
structure QueAt (K : PySem.W.Frag) (CQ CS CA : Addr) (H : Hp) (a : Addr) (rows : List QR) (w : Nat) (dx g s e u : Addr) (as ss : List Addr) : Prop where
  ob : H a = some (.ins CQ dx (queF g (w : Int) s e u))
  given : SqT K H g (refsV as)
  tups : Tups K H as (rows.map rowQ)
  steps : SqT K H s (refsV ss)
  stps : Stps CS CA H ss rows
  ends : SqL K H e (natV (ensOf (BM.qds rows)))
  ups : SqL K H u (optsV (upsOf (BM.qds rows)))
def QueOb (K : PySem.W.Frag) (CQ CS CA : Addr) (H : Hp) (a : Addr) (rows : List QR) (w : Nat) : Prop := ∃ dx g s e u as ss, QueAt K CQ CS CA H a rows w dx g s e u as ss
theorem QueAt.mono {CQ CS CA : Addr} {H H' : Hp} {a : Addr} {rows : List QR} {w : Nat} {dx g s e u : Addr} {as ss : List Addr} (x : Ex H H') (d : QueAt K CQ CS CA H a rows w dx g s e u as ss) : QueAt K CQ CS CA H' a rows w dx g s e u as ss :=
  ⟨x _ _ d.ob, ex_t x d.given, d.tups.mono x, ex_t x d.steps, d.stps.mono x, ex_l x d.ends, ex_l x d.ups⟩
theorem QueOb.mono {CQ CS CA : Addr} {H H' : Hp} {a : Addr} {rows : List QR} {w : Nat} (x : Ex H H') (d : QueOb K CQ CS CA H a rows w) : QueOb K CQ CS CA H' a rows w :=
  let ⟨dx, g, s, e, u, as, ss, h⟩ := d; ⟨dx, g, s, e, u, as, ss, h.mono x⟩
/-! places -/
theorem refs_at {as : List Addr} {i : Nat} {a : Addr} (h : as[i]? = some a) : (refsV as)[i]? = some (.ref a) := by
  rw [List.getElem?_map, h]
  rfl
theorem refs_back {as : List Addr} {i : Nat} {x : V} (h : (refsV as)[i]? = some x) : ∃ a, as[i]? = some a ∧ x = .ref a := by
  rw [List.getElem?_map] at h
  cases e : as[i]? with
  | none => rw [e] at h; cases h
  | some a => rw [e] at h; exact ⟨a, rfl, (Option.some.inj h).symm⟩
theorem Tups.get {H : Hp} {as : List Addr} {rs : List (List V)} (t : Tups K H as rs) {i : Nat} {r : List V} (h : rs[i]? = some r) : ∃ a, as[i]? = some a ∧ SqT K H a r := by
  have hi := (List.getElem?_eq_some_iff.mp h).1
  have hl : i < as.length := by
    rw [t.len]
    exact hi
  exact ⟨as[i], List.getElem?_eq_getElem hl, t.at_ i _ r (List.getElem?_eq_getElem hl) h⟩
theorem Stps.get {CS CA : Addr} {H : Hp} {ss : List Addr} {rows : List QR} (t : Stps CS CA H ss rows) {i : Nat} {r : QR} (h : rows[i]? = some r) : ∃ a, ss[i]? = some a ∧ StepOb CS CA H a r := by
  have hi := (List.getElem?_eq_some_iff.mp h).1
  have hl : i < ss.length := by
    rw [t.len]
    exact hi
  exact ⟨ss[i], List.getElem?_eq_getElem hl, t.at_ i _ r (List.getElem?_eq_getElem hl) h⟩
theorem row_at {rows : List DR} {i : Nat} (h : i < rows.length) : (rows.map rowD)[i]? = some (rowD rows[i]) := by
  rw [List.getElem?_map, List.getElem?_eq_getElem h]
  rfl
theorem rowq_at {rows : List QR} {i : Nat} (h : i < rows.length) : (rows.map rowQ)[i]? = some (rowQ rows[i]) := by
  rw [List.getElem?_map, List.getElem?_eq_getElem h]
  rfl
theorem dds_at {rows : List DR} {i : Nat} (h : i < rows.length) : BM.dep (BM.dds rows) i = rows[i].2 := BM.dds_dep (List.getElem?_eq_getElem h)
theorem qds_at {rows : List QR} {i : Nat} (h : i < rows.length) : BM.dep (BM.qds rows) i = rows[i].2.2 := BM.qds_dep (List.getElem?_eq_getElem h)
/-! stores into self -/
section
variable {σ : L2.St} {H : Hp} {ta tv : TE} {D : Ends} {tz : TS} {i : Nat} {a C dx : Addr} {fs : List (Str × V)} {f : Str} {v : V}
theorem q_fldN {P : Addr → Hp → Prop} (hv : EvN tv σ H P) (h0 : σ[i]? = some (some (.ref a))) (hi : H a = some (.ins C dx fs)) (hc : Cls K C) (hn : NoAttr K C f) (hz : fs.length < 1000)
    (k : ∀ p H1, H p = none → Ex H H1 → P p H1 → tz D σ (upd H1 a (.ins C dx (putF f (.ref p) fs)))) : tSeq (sFld K (tVar i) tv f) tz D σ H :=
  hv H (Ex.refl H) _ fun p H1 hp e hP => ⟨.ref a, h0, a, C, dx, fs, rfl, e _ _ hi, hc, hn, hz, k p H1 hp e hP⟩
theorem s_fldN {P : Addr → Hp → Prop} (hv : EvN tv σ H P) (h0 : σ[i]? = some (some (.ref a))) (hi : H a = some (.ins C dx fs)) (hc : Cls K C) (hn : NoAttr K C f) (hz : fs.length < 1000)
    (k : ∀ p H1, H p = none → Ex H H1 → P p H1 → D.nx σ (upd H1 a (.ins C dx (putF f (.ref p) fs)))) : sFld K (tVar i) tv f D σ H :=
  hv H (Ex.refl H) _ fun p H1 hp e hP => ⟨.ref a, h0, a, C, dx, fs, rfl, e _ _ hi, hc, hn, hz, k p H1 hp e hP⟩
theorem q_fldV (hv : Ev tv σ H v) (h0 : σ[i]? = some (some (.ref a))) (hi : H a = some (.ins C dx fs)) (hc : Cls K C) (hn : NoAttr K C f) (hz : fs.length < 1000)
    (k : ∀ H1, Ex H H1 → tz D σ (upd H1 a (.ins C dx (putF f v fs)))) : tSeq (sFld K (tVar i) tv f) tz D σ H :=
  hv H (Ex.refl H) _ fun H1 e => ⟨.ref a, h0, a, C, dx, fs, rfl, e _ _ hi, hc, hn, hz, k H1 e⟩
theorem s_fldV (hv : Ev tv σ H v) (h0 : σ[i]? = some (some (.ref a))) (hi : H a = some (.ins C dx fs)) (hc : Cls K C) (hn : NoAttr K C f) (hz : fs.length < 1000)
    (k : ∀ H1, Ex H H1 → D.nx σ (upd H1 a (.ins C dx (putF f v fs)))) : sFld K (tVar i) tv f D σ H :=
  hv H (Ex.refl H) _ fun H1 e => ⟨.ref a, h0, a, C, dx, fs, rfl, e _ _ hi, hc, hn, hz, k H1 e⟩
theorem en_call1L {R : List V → Hp → (Addr → Hp → Prop) → Prop} {P : Addr → Hp → Prop} {E : XK} {xs : List V} (h : EvL ta σ H xs) (hR : ∀ p H1, Ex H H1 → H1 p = some (.lst xs) → R [.ref p] H1 P) : EvN (tCall (spN R) [] E (tCons ta tNil)) σ H P := fun H1 e Q q =>
  h H1 e _ fun p H2 hp e2 hl => ⟨P, hR p H2 (e.trans e2) hl, fun r H3 hr e3 hP => q r H3 (fresh_back e2 hr) (e2.trans e3) hP⟩
/-- tuple(xs) of a list -/
theorem en_tuple {p : Addr} {xs : List V} (h : Ev ta σ H (.ref p)) (hx : SqL K H p xs) :
    EvN (tCB (fun vs H Q => ∃ p ys, vs = [.ref p] ∧ ((SqL K H p ys ∧ ∀ l, H l = none → Q (.ref l) (upd H l (.tup ys))) ∨ (SqT K H p ys ∧ Q (.ref p) H))) (tCons ta tNil)) σ H (fun l H2 => H2 l = some (.tup xs)) := fun H1 e Q q =>
  h H1 e _ fun H2 e2 => ⟨p, xs, rfl, .inl ⟨ex_l (e.trans e2) hx, fun l hl => q l _ (fresh_back e2 hl) (e2.trans (Ex.new hl)) upd_same⟩⟩
theorem en_tupleL {xs : List V} (h : EvL ta σ H xs) :
    EvN (tCB (fun vs H Q => ∃ p ys, vs = [.ref p] ∧ ((SqL K H p ys ∧ ∀ l, H l = none → Q (.ref l) (upd H l (.tup ys))) ∨ (SqT K H p ys ∧ Q (.ref p) H))) (tCons ta tNil)) σ H (fun l H2 => H2 l = some (.tup xs)) := fun H1 e Q q =>
  h H1 e _ fun p H2 _ e2 hp => ⟨p, xs, rfl, .inl ⟨sq_of hp, fun l hl => q l _ (fresh_back e2 hl) (e2.trans (Ex.new hl)) upd_same⟩⟩
end
/-! the data of rows -/
theorem strOk_lab {z : Str} (h : isLab z) : PyData.strOk z = true := by
  unfold PyData.strOk
  rw [← Array.all_toList, List.all_eq_true]
  intro c hc
  have hm := h.2.2 c hc
  have : ∀ c ∈ letters.cps.toList, decide (c < 0x110000) = true := by decide +kernel
  exact this c hm
theorem strOk_way (b : Bool) : PyData.strOk (wayS b) = true := by
  cases b <;> decide +kernel
def dRowD (r : DR) : PyData := .tuple [.str r.1, .int (r.2 : Int)]
def dRowQ (r : QR) : PyData := .tuple [.str (wayS r.1), .str r.2.1, .int (r.2.2 : Int)]
theorem dp_all {α : Type} {H : Hp} {f : α → List V} {g : α → PyData} (hg : ∀ a r, SqT K H a (f r) → Dp K H (.ref a) (g r)) : ∀ (as : List Addr) (rows : List α), Tups K H as (rows.map f) → DpAll K H (refsV as) (rows.map g)
  | [], [], _ => .nil
  | [], r :: rs, t => by have := t.len; simp at this
  | a :: as, [], t => by have := t.len; simp at this
  | a :: as, r :: rs, t => .cons (hg a r (t.at_ 0 a (f r) rfl rfl)) (dp_all hg as rs ⟨by have := t.len; simpa using this, fun i b q h1 h2 => t.at_ (i + 1) b q h1 h2⟩)
theorem dp_rowsD {H : Hp} {a : Addr} {rows : List DR} (h : RowsAt K H a (rows.map rowD)) : Dp K H (.ref a) (.list (rows.map dRowD)) := by
  obtain ⟨as, h1, h2⟩ := h
  exact .lst h1 (dp_all (fun a r h => .tup h (.cons (.str _) (.cons (.int _) .nil))) as rows h2)
theorem dp_rowsQ {H : Hp} {a : Addr} {rows : List QR} (h : RowsAt K H a (rows.map rowQ)) : Dp K H (.ref a) (.list (rows.map dRowQ)) := by
  obtain ⟨as, h1, h2⟩ := h
  exact .lst h1 (dp_all (fun a r h => .tup h (.cons (.str _) (.cons (.str _) (.cons (.int _) .nil)))) as rows h2)
theorem lay_all {α : Type} {g : α → PyData} : ∀ (rows : List α), (∀ r ∈ rows, (g r).canLay0 = true ∧ (g r).depth ≤ 10) → PyData.canLayAll0 (rows.map g) = true ∧ PyData.depthAll (rows.map g) ≤ 10
  | [], _ => ⟨rfl, Nat.zero_le _⟩
  | r :: rs, h => by
    obtain ⟨h1, h2⟩ := lay_all rs fun q hq => h q (List.mem_cons_of_mem _ hq)
    obtain ⟨h3, h4⟩ := h r List.mem_cons_self
    refine ⟨?_, ?_⟩
    · show (PyData.canLay0 (g r) && PyData.canLayAll0 _) = true
      rw [h1, h3]
      rfl
    · show max (PyData.depth (g r)) (PyData.depthAll _) ≤ 10
      omega
theorem shaped_all {α : Type} {g : α → PyData} {rows : List α} (h : ∀ r ∈ rows, (g r).canLay0 = true ∧ (g r).depth ≤ 10) : SeqAt.shaped (.list (rows.map g)) = true := by
  obtain ⟨h1, h2⟩ := lay_all rows h
  show (PyData.canLayAll0 _ && decide (PyData.depthAll _ + 1 ≤ 64)) = true
  rw [h1, decide_eq_true (by omega)]
  rfl
theorem shaped_rowsD {rows : List DR} (h : ∀ r ∈ rows, isLab r.1) : SeqAt.shaped (.list (rows.map dRowD)) = true := shaped_all fun r hr => ⟨by
  show (PyData.strOk r.1 && (true && true)) = true
  rw [strOk_lab (h r hr)]
  rfl, by show 0 + 1 ≤ 10; decide⟩
theorem shaped_rowsQ {rows : List QR} (h : ∀ r ∈ rows, isLab r.2.1) : SeqAt.shaped (.list (rows.map dRowQ)) = true := shaped_all fun r hr => ⟨by
  show (PyData.strOk (wayS r.1) && (PyData.strOk r.2.1 && (true && true))) = true
  rw [strOk_lab (h r hr), strOk_way]
  rfl, by show 0 + 1 ≤ 10; decide⟩
end
end Bo
set_option Elab.async false
set_option linter.all false
set_option maxRecDepth 100000
set_option maxHeartbeats 4000000
namespace Bo
open PySem PySem.Spec PyProof.Rows L2 Evl BK BL
section
variable {P : Program} {w : World} {K : PySem.W.Frag} {mg : Str → Option Value} {base : Heap} {CD CQ CS CA : Addr}
/-! ### a row; the document -/
def spPartRow (K : PySem.W.Frag) : Sp := spV fun vs H v => ∃ (a : Addr) (r : DR) (m : Int), vs = [.ref a, .int m] ∧ SqT K H a (rowD r) ∧ isLab r.1 ∧ 1 ≤ r.2 ∧ (r.2 : Int) ≤ m ∧ v = .bl true
theorem sc_is_part_row : FnScope ["thing", "deepest"] ["thing", "deepest"] (defScope s_is_part_row) := ⟨rfl, rfl, rfl, by decide +kernel, rfl, by decide +kernel, by decide +kernel⟩
theorem fn_is_part_row (T : Txt K mg CD CQ CS CA) : Fn P w K mg base "is_part_row" 3 ["thing", "deepest"] (spPartRow K) := by
  refine Fn.of T.g_is_part_row sc_is_part_row (fun _ _ _ _ _ _ us hl => match us, hl with | [_, _], _ => rfl) (fun vs H Q E h => ?_) (fun f cdv A outer s H vs Q E hr h => ?_)
  · obtain ⟨v, ⟨a, r, m, rfl, _⟩, _⟩ := h
    rfl
  · obtain ⟨v, ⟨a, r, m, rfl, hS, hl, h1, h2, rfl⟩, k⟩ := h
    refine ⟨_, (pss_cons (ps_if (PW.pt (pw_or (pt_not (pt_val (pe_callB call_isi (by rfl) T.z_isinstance (by decide +kernel) (pa_cons (pv 0) (pa_cons (pe_bltn (v := .ty "tuple") (by rfl) T.z_tuple (by decide +kernel) rfl) pa_nil))))) (pw_or1 (pt_cmpR op_ne (pe_callB call_len_seq (by rfl) T.z_len (by decide +kernel) (pa_cons (pv 0) pa_nil)) pe_int (nomark _))))) (pss_one (ps_ret pe_bl)) pss_nil)
  (pss_one (ps_ret (pe_and (Fn.pe (by exact fn_is_label T) (hr.mono (by decide)) (by rfl) (pa_cons (pe_ix ix_tup (pv 0) pe_int (fun _ _ => rfl)) pa_nil)) (pe_one (Fn.pe (by exact fn_is_within T) (hr.mono (by decide)) (by rfl) (pa_cons (pe_ix ix_tup (pv 0) pe_int (fun _ _ => rfl)) (pa_cons pe_int (pa_cons (pv 1) pa_nil))))))))), ?_⟩
    refine q_when (b := false) (et_is (et_or (et_not (et_B (ev_isi (ev_var rfl) (fun _ e => tyx_t (ex_t e hS)) (kit_ty (b := "tuple") (r := true) (by decide +kernel))))) fun _ => et_test (ev_op (ev_lenT (ev_var rfl) hS) ev_c (rv_ne rfl))) rfl) (fun q => by cases q) fun _ H1 e1 => ?_
    have hS1 := ex_t e1 hS
    refine s_ret (ev_is (ev_andV (a := true) (b := true) (ev_callV (ea_cons (ev_op (ev_var rfl) ev_c (rv_ixT (i := 0) hS1 rfl)) ea_nil) fun _ _ => ⟨r.1, rfl, hl, rfl⟩) fun _ => ev_callV (ea_cons (ev_op (ev_var rfl) ev_c (rv_ixT (i := 1) hS1 rfl)) (ea_cons ev_c (ea_cons (ev_var rfl) ea_nil))) fun _ _ => ⟨(r.2 : Int), 1, m, rfl, by
      rw [decide_eq_true (show (1 : Int) ≤ (r.2 : Int) by omega), decide_eq_true h2]
      rfl⟩) rfl) fun H2 e2 => k H2 (e1.trans e2)
def spStepRow (K : PySem.W.Frag) : Sp := spV fun vs H v => ∃ (a : Addr) (r : QR) (m : Int), vs = [.ref a, .int m] ∧ SqT K H a (rowQ r) ∧ isLab r.2.1 ∧ 1 ≤ r.2.2 ∧ (r.2.2 : Int) ≤ m ∧ v = .bl true
theorem sc_is_step_row : FnScope ["thing", "deepest"] ["thing", "deepest"] (defScope s_is_step_row) := ⟨rfl, rfl, rfl, by decide +kernel, rfl, by decide +kernel, by decide +kernel⟩
theorem fn_is_step_row (T : Txt K mg CD CQ CS CA) : Fn P w K mg base "is_step_row" 3 ["thing", "deepest"] (spStepRow K) := by
  refine Fn.of T.g_is_step_row sc_is_step_row (fun _ _ _ _ _ _ us hl => match us, hl with | [_, _], _ => rfl) (fun vs H Q E h => ?_) (fun f cdv A outer s H vs Q E hr h => ?_)
  · obtain ⟨v, ⟨a, r, m, rfl, _⟩, _⟩ := h
    rfl
  · obtain ⟨v, ⟨a, r, m, rfl, hS, hl, h1, h2, rfl⟩, k⟩ := h
    obtain ⟨aWAYS, hWAYS, kWAYS⟩ := T.c_WAYS
    refine ⟨_, (pss_cons (ps_if (PW.pt (pw_or (pt_not (pt_val (pe_callB call_isi (by rfl) T.z_isinstance (by decide +kernel) (pa_cons (pv 0) (pa_cons (pe_bltn (v := .ty "tuple") (by rfl) T.z_tuple (by decide +kernel) rfl) pa_nil))))) (pw_or (pt_cmpR op_ne (pe_callB call_len_seq (by rfl) T.z_len (by decide +kernel) (pa_cons (pv 0) pa_nil)) pe_int (nomark _)) (pw_or (pt_not (pt_val (pe_callB call_isi (by rfl) T.z_isinstance (by decide +kernel) (pa_cons (pe_ix ix_tup (pv 0) pe_int (fun _ _ => rfl)) (pa_cons (pe_bltn (v := .ty "str") (by rfl) T.z_str (by decide +kernel) rfl) pa_nil))))) (pw_or1 (pt_cmpR op_notIn_seq (pe_ix ix_tup (pv 0) pe_int (fun _ _ => rfl)) (pe_glob (v := .ref aWAYS) (by rfl) hWAYS rfl) (by rfl))))))) (pss_one (ps_ret pe_bl)) pss_nil)
  (pss_one (ps_ret (pe_and (Fn.pe (by exact fn_is_label T) (hr.mono (by decide)) (by rfl) (pa_cons (pe_ix ix_tup (pv 0) pe_int (fun _ _ => rfl)) pa_nil)) (pe_one (Fn.pe (by exact fn_is_within T) (hr.mono (by decide)) (by rfl) (pa_cons (pe_ix ix_tup (pv 0) pe_int (fun _ _ => rfl)) (pa_cons pe_int (pa_cons (pv 1) pa_nil))))))))), ?_⟩
    have hW : ∀ H1, SqL K H1 aWAYS [.str "/", .str "//"] := fun H1 => .inr kWAYS.ex
    have hin : inV (.str (wayS r.1)) [.str "/", .str "//"] = true := by
      cases r.1 <;> decide +kernel
    refine q_when (b := false) (et_is (et_or (et_not (et_B (ev_isi (ev_var rfl) (fun _ e => tyx_t (ex_t e hS)) (kit_ty (b := "tuple") (r := true) (by decide +kernel))))) fun _ => et_or (b := false) (et_test (ev_op (ev_lenT (ev_var rfl) hS) ev_c (rv_ne rfl))) fun _ =>
      et_or (et_not (et_B (ev_isi (ev_op (ev_var rfl) ev_c (rv_ixT (i := 0) hS rfl)) (fun _ e => .base (.str (wayS r.1))) (kit_ty (b := "str") (r := true) (by decide +kernel))))) fun _ => et_test (b := false) (ev_op (ev_op (ev_var rfl) ev_c (rv_ixT (i := 0) hS rfl)) ev_c (by
        have := rv_niL (K := K) (H := H) (x := .str (wayS r.1)) (hW H) rfl rfl
        rw [hin] at this
        exact this))) rfl) (fun q => by cases q) fun _ H1 e1 => ?_
    have hS1 := ex_t e1 hS
    refine s_ret (ev_is (ev_andV (a := true) (b := true) (ev_callV (ea_cons (ev_op (ev_var rfl) ev_c (rv_ixT (i := 1) hS1 rfl)) ea_nil) fun _ _ => ⟨r.2.1, rfl, hl, rfl⟩) fun _ => ev_callV (ea_cons (ev_op (ev_var rfl) ev_c (rv_ixT (i := 2) hS1 rfl)) (ea_cons ev_c (ea_cons (ev_var rfl) ea_nil))) fun _ _ => ⟨(r.2.2 : Int), 1, m, rfl, by
      rw [decide_eq_true (show (1 : Int) ≤ (r.2.2 : Int) by omega), decide_eq_true h2]
      rfl⟩) rfl) fun H2 e2 => k H2 (e1.trans e2)
/-- [row[k] for row in rows], the depths -/
theorem el_col {α : Type} {σ : L2.St} {H : Hp} {tl : TE} {a : Addr} {rows : List α} {f : α → List V} {g : α → Nat} {j : Nat} {c : Int} {ws : List Nat} (ha : Ev tl σ H (.ref a)) (h : RowsAt K H a (rows.map f)) (hz : rows.length ≤ 1000)
    (hw : ∀ x, wipe ((wipe σ ws).set j (some x)) ws = wipe σ ws) (hj : ∀ x, ((wipe σ ws).set j (some x))[j]? = some (some x)) (hc : ∀ r, atI (f r) c = some (.int ((g r : Nat) : Int))) :
    EvL (tLc (iList K tl) (gName j) tYes (tOp (rIxT K) (tVar j) (tC (.int c))) ws) σ H (natV (rows.map g)) := by
  obtain ⟨as, h1, h2⟩ := h
  have hlen : as.length = rows.length := by rw [h2.len, List.length_map]
  have := el_lcN (t := tYes) (te := tOp (rIxT K) (tVar j) (tC (.int c))) (j := j) (ws := ws) (fun _ => true) (fun i => .int ((((rows.map g).getD i 0 : Nat)) : Int)) (by rw [List.length_map]; omega) (ei_list ha h1) walk_list (fun _ e => ex_l e h1) (fun _ _ _ _ y => y.1) hw (fun i x H1 hi e y => by
    obtain ⟨_, hx⟩ := y
    obtain ⟨b, hb, rfl⟩ := refs_back hx
    have hi' : i < rows.length := by
      have := (List.getElem?_eq_some_iff.mp hb).1
      omega
    have hr : (rows.map f)[i]? = some (f rows[i]) := by
      rw [List.getElem?_map, List.getElem?_eq_getElem hi']
      rfl
    have hg : (rows.map g).getD i 0 = g rows[i] := by
      rw [List.getD_eq_getElem?_getD, List.getElem?_map, List.getElem?_eq_getElem hi']
      rfl
    rw [hg]
    exact ⟨fun H3 e3 Q q => q H3 (Ex.refl H3), fun _ => ev_op (ev_var (hj _)) ev_c (rv_ixT (ex_t e (h2.at_ i b _ hb hr)) (hc _))⟩)
  have hg : given (refsV as).length (fun _ => true) (fun i => V.int ((((rows.map g).getD i 0 : Nat)) : Int)) = natV (rows.map g) := by
    unfold given
    rw [List.filter_eq_self.mpr (fun _ _ => rfl), List.length_map, hlen]
    unfold natV
    apply List.ext_getElem?
    intro i
    rw [List.getElem?_map, List.getElem?_map]
    by_cases hi : i < rows.length
    · rw [List.getElem?_range hi, List.getElem?_map, List.getElem?_eq_getElem hi]
      show some _ = some _
      show some (V.int (((rows.map g).getD i 0 : Nat) : Int)) = some (V.int ((g rows[i] : Nat) : Int))
      rw [List.getD_eq_getElem?_getD, List.getElem?_map, List.getElem?_eq_getElem hi]
      rfl
    · rw [List.getElem?_eq_none (by rw [List.length_range]; omega), List.getElem?_eq_none (by rw [List.length_map]; omega)]
      rfl
  rw [hg] at this
  exact this
def spDocInit (K : PySem.W.Frag) (CD : Addr) : Sp := fun vs H Q _ => ∃ (x dx a : Addr) (rows : List DR), vs = [.ref x, .ref a] ∧ H x = some (.ins CD dx []) ∧ RowsAt K H a (rows.map rowD) ∧ OkD rows ∧ ∀ H2, ExB x H H2 → DocOb K CD H2 x rows → Q .non H2
theorem sc_Document___init : FnScope ["self", "rows", "deepest", "number", "row"] ["self", "rows"] (defScope s_Document___init__) := ⟨rfl, rfl, rfl, by decide +kernel, rfl, by decide +kernel, by decide +kernel⟩
theorem c_Document (T : Txt K mg CD CQ CS CA) : Ctor P w K mg base "Document" CD 4 ["self", "rows"] (spDocInit K CD) := by
  refine Ctor.of T.i_Document T.mkD T.kpD T.xD sc_Document___init (fun _ _ _ _ _ _ us hl => match us, hl with | [_, _], _ => rfl) (fun vs H Q E h => ?_) (fun f cdv A outer s H vs Q E hr h => ?_)
  · obtain ⟨x, dx, a, rows, rfl, _⟩ := h
    rfl
  · obtain ⟨x, dx, a, rows, rfl, hx, hR, O, k⟩ := h
    obtain ⟨tMOST_PARTS, hMOST_PARTS⟩ := T.c_MOST_PARTS
    obtain ⟨tMOST_DEEP_document, hMOST_DEEP_document⟩ := T.c_MOST_DEEP_document
    refine ⟨_, (pss_cons (ps_if (PW.pt (pw_or (pt_not (pt_val (pe_callB call_isi (by rfl) T.z_isinstance (by decide +kernel) (pa_cons (pv 1) (pa_cons (pe_bltn (v := .ty "list") (by rfl) T.z_list (by decide +kernel) rfl) pa_nil))))) (pw_or1 (pt_cmpR (op_eqD hr.units) (pv 1) (pe_lst pa_nil) (nomark _))))) (pss_one ps_never) pss_nil)
  (pss_cons (ps_if (pt_cmpR op_gt (pe_callB call_len_seq (by rfl) T.z_len (by decide +kernel) (pa_cons (pv 1) pa_nil)) (pe_glob (v := .int 240) (by rfl) hMOST_PARTS ⟨_, rfl⟩) (nomark _)) (pss_one ps_never) pss_nil)
  (pss_cons (ps_set (i := 2) sc_Document___init.nd rfl (Or.inl rfl) pe_int)
  (pss_cons (ps_for PassesOwn.never rfl (pi_enum (by rfl) T.z_enumerate (pa_cons (pv 1) pa_nil)) (pg_tup rfl (pgs_cons (pg_name (i := 3) sc_Document___init.nd rfl (Or.inl rfl)) (pgs_cons (pg_name (i := 4) sc_Document___init.nd rfl (Or.inl rfl)) pgs_nil))) (pss_cons (ps_if (PW.pt (pw_or (pt_not (pt_val (Fn.pe (by exact fn_is_part_row T) (hr.mono (by decide)) (by rfl) (pa_cons (pv 4) (pa_cons (pe_callB (call_min2 rfl) (by rfl) T.z_min (by decide +kernel) (pa_cons (pv 2) (pa_cons (pe_glob (v := .int 80) (by rfl) hMOST_DEEP_document ⟨_, rfl⟩) pa_nil))) pa_nil))))) (pw_or1 (PW.pt (pw_and (pt_cmpR op_gt (pv 3) pe_int (nomark _)) (pw_and1 (pt_cmpR op_eq (pe_ix ix_tup (pv 4) pe_int (fun _ _ => rfl)) pe_int (nomark _)))))))) (pss_one ps_never) pss_nil)
  (pss_one (ps_set (i := 2) sc_Document___init.nd rfl (Or.inl rfl) (pe_op op_add (pe_ix ix_tup (pv 4) pe_int (fun _ _ => rfl)) pe_int)))))
  (pss_cons (ps_fld (pv 0) (pe_callTy call_tuple_of (by rfl) T.z_tuple (by decide +kernel) (pa_cons (pv 1) pa_nil)) rfl)
  (pss_cons (ps_fld (pv 0) (Fn.pe (by exact fn_ends_by T) (hr.mono (by decide)) (by rfl) (pa_cons (pe_lc (own := [("row", 4)]) (g := (gName 4)) rfl sc_Document___init.nd (pi_list (pv 1)) (blkOk_by (by kernel_rfl)) (fun _ _ _ _ _ => (pg_name (i := 4) sc_Document___init.nd rfl (Or.inl rfl))) (fun _ _ _ _ _ => pts_nil) (fun _ _ _ _ _ => (pe_ix (show IxR _ (rIxT K) from ix_tup) (pv 4) pe_int (fun _ _ => rfl)))) pa_nil)) rfl)
  (pss_one (ps_fld (pv 0) (Fn.pe (by exact fn_uppers_by T) (hr.mono (by decide)) (by rfl) (pa_cons (pe_lc (own := [("row", 4)]) (g := (gName 4)) rfl sc_Document___init.nd (pi_list (pv 1)) (blkOk_by (by kernel_rfl)) (fun _ _ _ _ _ => (pg_name (i := 4) sc_Document___init.nd rfl (Or.inl rfl))) (fun _ _ _ _ _ => pts_nil) (fun _ _ _ _ _ => (pe_ix (show IxR _ (rIxT K) from ix_tup) (pv 4) pe_int (fun _ _ => rfl)))) pa_nil)) rfl)))))))), ?_⟩
    have hpos := O.pos
    obtain ⟨as, hA, hT⟩ := id hR
    have hlen : as.length = rows.length := by rw [hT.len, List.length_map]
    have hmany := O.many
    refine q_when (b := false) (et_is (et_or (et_not (et_B (ev_isi (ev_var rfl) (fun _ e => tyx_l (ex_l e hA)) (kit_ty (b := "list") (r := true) (by decide +kernel))))) fun _ => et_test (ev_eq_nil (ds := rows.map dRowD) (ev_var rfl) (fun H1 e => dp_rowsD (hR.mono e)) (shaped_rowsD O.lab))) (by
      cases rows with
      | nil => simp at hpos
      | cons r rs => rfl)) (fun q => by cases q) fun _ H1 e1 => ?_
    refine q_when (b := false) (et_is (et_test (ev_op (ev_len (ev_var rfl) (ex_l e1 hA)) ev_c rv_I0)) (by
      refine decide_eq_false ?_
      rw [List.length_map, hlen]
      omega)) (fun q => by cases q) fun _ H2 e2 => ?_
    have e12 := e1.trans e2
    refine q_asg ev_c fun H3 e3 => ?_
    have e13 := e12.trans e3
    refine q_forI (ei_enum (ev_var rfl) (ex_l e13 hA)) walk_enum (fun i σ' H' => ∃ v3 v4 : Option V, σ' = [some (.ref x), some (.ref a), some (.int (if i = 0 then 1 else (BM.dep (BM.dds rows) (i - 1) : Int) + 1)), v3, v4] ∧ Ex H H')
      (fun H4 e4 => ⟨none, none, rfl, e13.trans e4⟩) (fun i σ' H' _ ⟨_, _, _, e⟩ => ex_l e hA) ?_ ?_
    · rintro i y σ' H' H'' hi ⟨v3, v4, rfl, e⟩ hy
      rw [List.length_map, hlen] at hi
      refine g_pair hy fun u v hu hv e' => ?_
      cases hu
      obtain ⟨b, hb, rfl⟩ := refs_back hv
      have e'' := e.trans e'
      have hrow : SqT K H'' b (rowD rows[i]) := ex_t e'' (hT.at_ i b _ hb (row_at hi))
      have hmem : rows[i] ∈ rows := List.getElem_mem hi
      have hlab := O.lab _ hmem
      have hdeep := O.deep _ hmem
      have hd : BM.dep (BM.dds rows) i = rows[i].2 := dds_at hi
      have hdl : i < (BM.dds rows).length := by rw [BM.dds_len]; exact hi
      have h1 := O.good.one_le hdl
      refine q_when (b := false) (et_is (et_or (a := false) (b := false) (et_is (et_not (et_B (ev_callV (z := .bl true) (ea_cons (ev_var rfl) (ea_cons (ev_min2 (ev_var rfl) ev_c) ea_nil)) fun H4 e4 => ⟨b, rows[i], _, rfl, ex_t e4 hrow, hlab, by omega, by
        by_cases z : i = 0
        · subst z
          have := O.good.first
          rw [if_pos rfl]
          split <;> omega
        · have := O.good.step i (by omega) hdl
          rw [if_neg z]
          split <;> omega, rfl⟩))) rfl) fun _ => et_is (et_and (et_test (ev_op (ev_var rfl) ev_c rv_I0)) fun _ => et_test (ev_op (ev_op (ev_var rfl) ev_c (rv_ixT (i := 1) hrow rfl)) ev_c (rv_eq rfl))) (by
        by_cases z : i = 0
        · subst z
          rfl
        · have := O.good.low i (by omega) hdl
          have hne : ¬ (V.int ((rows[i].2 : Nat) : Int) = V.int 1) := fun q => by
            injection q with q
            omega
          rw [decide_eq_false hne, Bool.and_false])) rfl) (fun q => by cases q) fun _ H4 e4 => ?_
      refine s_asg (ev_op (ev_op (ev_var rfl) ev_c (rv_ixT (i := 1) (ex_t e4 hrow) rfl)) ev_c rv_I0) fun H5 e5 => ?_
      refine ⟨some (.int (i : Int)), some (.ref b), ?_, e''.trans (e4.trans e5)⟩
      rw [if_neg (Nat.succ_ne_zero i), Nat.add_sub_cancel, hd]
      rfl
    · rintro σ' H' ⟨v3, v4, rfl, e⟩
      generalize hdd : (V.int (if (refsV as).length = 0 then 1 else (BM.dep (BM.dds rows) ((refsV as).length - 1) : Int) + 1)) = vd
      refine q_fldN (en_tuple (ev_var rfl) (ex_l e hA)) rfl (e _ _ hx) T.clD T.nD_parts (by show 0 < 1000; decide) fun t H4 t0 e4 ht => ?_
      have x4 : H4 x = some (.ins CD dx []) := e4 _ _ (e _ _ hx)
      have ntx : t ≠ x := ne_of ht x4 (fun q => by cases q)
      have b4 : ExB x H (upd H4 x (.ins CD dx (putF "parts" (.ref t) []))) := (ExB.of (e.trans e4)).upd
      refine q_fldN (en_call1L (el_col (g := fun (r : DR) => r.2) (j := 4) (ws := [4]) (c := 1) (ev_var rfl) ⟨as, exb_l b4 hx hA, hT.exb b4 hx⟩ (by omega) (fun _ => rfl) (fun _ => rfl) fun _ => rfl) fun p H5 e5 hp => ⟨p, BM.dds rows, rfl, sq_of hp, O.good, by rw [BM.dds_len]; omega, rfl⟩) rfl upd_same T.clD T.nD_ends (by show 1 < 1000; decide) fun en H5 n0 e5 hen => ?_
      have x5 : H5 x = some (.ins CD dx (putF "parts" (.ref t) [])) := e5 _ _ upd_same
      have nex : en ≠ x := ne_of hen x5 (fun q => by cases q)
      have b5 : ExB x H (upd H5 x (.ins CD dx (putF "ends" (.ref en) (putF "parts" (.ref t) [])))) := (b4.trans (ExB.of e5)).upd
      refine s_fldN (en_call1L (el_col (g := fun (r : DR) => r.2) (j := 4) (ws := [4]) (c := 1) (ev_var rfl) ⟨as, exb_l b5 hx hA, hT.exb b5 hx⟩ (by omega) (fun _ => rfl) (fun _ => rfl) fun _ => rfl) fun p H6 e6 hp => ⟨p, BM.dds rows, rfl, sq_of hp, O.good, by rw [BM.dds_len]; omega, rfl⟩) rfl upd_same T.clD T.nD_uppers (by show 2 < 1000; decide) fun up H6 u0 e6 hup => ?_
      have x6 : H6 x = some (.ins CD dx (putF "ends" (.ref en) (putF "parts" (.ref t) []))) := e6 _ _ upd_same
      have nux : up ≠ x := ne_of hup x6 (fun q => by cases q)
      have b6 : ExB x H (upd H6 x (.ins CD dx (putF "uppers" (.ref up) (putF "ends" (.ref en) (putF "parts" (.ref t) []))))) := (b5.trans (ExB.of e6)).upd
      have t6 : H6 t = some (.tup (refsV as)) := e6 _ _ (by rw [upd_ne ntx]; exact e5 _ _ (by rw [upd_ne ntx]; exact ht))
      have n6 : H6 en = some (.lst (natV (ensOf (BM.dds rows)))) := e6 _ _ (by rw [upd_ne nex]; exact hen)
      exact k _ b6 ⟨dx, t, en, up, as, upd_same, st_of (by rw [upd_ne ntx]; exact t6), hT.exb b6 hx, sq_of (by rw [upd_ne nex]; exact n6), sq_of (by rw [upd_ne nux]; exact hup)⟩
end
end Bo
set_option Elab.async false
set_option linter.all false
set_option maxRecDepth 100000
set_option maxHeartbeats 4000000
namespace Bo
open PySem PySem.Spec PyProof.Rows L2 Evl BK BL
section
variable {P : Program} {w : World} {K : PySem.W.Frag} {mg : Str → Option Value} {base : Heap} {CD CQ CS CA : Addr}
/-! ### the document's methods -/
section
variable {H : Hp} {a : Addr} {rows : List DR} {dx t e u : Addr} {as : List Addr}
theorem DocAt.ends_at (d : DocAt K CD H a rows dx t e u as) {i : Nat} (h : i < rows.length) : atI (natV (ensOf (BM.dds rows))) (i : Int) = some (.int ((BM.endAt (BM.dds rows) i : Nat) : Int)) := atI_nat (natV_at (ensOf_at (by rw [BM.dds_len]; exact h)))
theorem DocAt.ups_at (d : DocAt K CD H a rows dx t e u as) {i : Nat} (h : i < rows.length) : atI (optsV (upsOf (BM.dds rows))) (i : Int) = some (optV (BM.upAt (BM.dds rows) i)) := atI_nat (optsV_at (upsOf_at (by rw [BM.dds_len]; exact h)))
theorem DocAt.many (d : DocAt K CD H a rows dx t e u as) : as.length = rows.length := by rw [d.tups.len, List.length_map]
end
def spDNeed (K : PySem.W.Frag) (CD : Addr) : Sp := spV fun vs H v => ∃ (a : Addr) (rows : List DR) (i : Nat), vs = [.ref a, .int (i : Int)] ∧ DocOb K CD H a rows ∧ i < rows.length ∧ v = .non
theorem sc_Document_need_part : FnScope ["self", "part"] ["self", "part"] (defScope s_Document_need_part) := ⟨rfl, rfl, rfl, by decide +kernel, rfl, by decide +kernel, by decide +kernel⟩
theorem m_Document_need_part (T : Txt K mg CD CQ CS CA) : Mt P w K mg base CD "need_part" 3 ["self", "part"] (spDNeed K CD) := by
  refine Mt.of T.m_Document_need_part sc_Document_need_part (fun _ _ _ _ _ _ us hl => match us, hl with | [_, _], _ => rfl) (fun vs H Q E h => ?_) (fun f cdv A outer s H vs Q E hr h => ?_)
  · obtain ⟨v, ⟨a, rows, i, rfl, _⟩, _⟩ := h
    rfl
  · obtain ⟨v, ⟨a, rows, i, rfl, ⟨dx, t, e, u, as, d⟩, hi, rfl⟩, k⟩ := h
    refine ⟨_, (pss_one (ps_if (pt_not (pt_val (Fn.pe (by exact fn_is_within T) (hr.mono (by decide)) (by rfl) (pa_cons (pv 1) (pa_cons pe_int (pa_cons (pe_op op_sub (pe_callB call_len_seq (by rfl) T.z_len (by decide +kernel) (pa_cons (pe_fld (pv 0) rfl) pa_nil)) pe_int) pa_nil)))))) (pss_one ps_never) pss_nil)), ?_⟩
    refine s_when (b := false) (et_is (et_not (et_B (ev_callV (z := .bl true) (ea_cons (ev_var rfl) (ea_cons ev_c (ea_cons (ev_op (ev_lenT (ev_fld (ev_var rfl) d.ob T.clD T.nD_parts (docF_parts _ _ _)) d.parts) ev_c rv_I0) ea_nil))) fun _ _ => ⟨(i : Int), 0, _, rfl, by
      rw [decide_eq_true (show (0 : Int) ≤ (i : Int) by omega), decide_eq_true (by rw [List.length_map, d.many]; omega)]
      rfl⟩))) rfl) (fun q => by cases q) fun _ H1 e1 => k H1 e1
def spDLabel (K : PySem.W.Frag) (CD : Addr) : Sp := spV fun vs H v => ∃ (a : Addr) (rows : List DR) (i : Nat) (r : DR), vs = [.ref a, .int (i : Int)] ∧ DocOb K CD H a rows ∧ rows[i]? = some r ∧ v = .str r.1
theorem sc_Document_label_of : FnScope ["self", "part"] ["self", "part"] (defScope s_Document_label_of) := ⟨rfl, rfl, rfl, by decide +kernel, rfl, by decide +kernel, by decide +kernel⟩
theorem m_Document_label_of (T : Txt K mg CD CQ CS CA) : Mt P w K mg base CD "label_of" 4 ["self", "part"] (spDLabel K CD) := by
  refine Mt.of T.m_Document_label_of sc_Document_label_of (fun _ _ _ _ _ _ us hl => match us, hl with | [_, _], _ => rfl) (fun vs H Q E h => ?_) (fun f cdv A outer s H vs Q E hr h => ?_)
  · obtain ⟨v, ⟨a, rows, i, r, rfl, _⟩, _⟩ := h
    rfl
  · obtain ⟨v, ⟨a, rows, i, r, rfl, ⟨dx, t, e, u, as, d⟩, hr', rfl⟩, k⟩ := h
    refine ⟨_, (pss_cons (ps_expr (Mt.pe T.clD (by exact m_Document_need_part T) (hr.mono (by decide)) (pv 0) (pa_cons (pv 1) pa_nil)))
  (pss_one (ps_ret (pe_ix ix_tup (pe_ix ix_tup (pe_fld (pv 0) rfl) (pv 1) (fun _ _ => rfl)) pe_int (fun _ _ => rfl))))), ?_⟩
    have hi := (List.getElem?_eq_some_iff.mp hr').1
    refine q_drop (ev_methV (ev_var rfl) d.ob (docF_no _ _ _ (by decide +kernel) (by decide +kernel) (by decide +kernel)) (ea_cons (ev_var rfl) ea_nil) fun H1 e1 => ⟨a, rows, i, rfl, ⟨dx, t, e, u, as, d.mono e1⟩, hi, rfl⟩) fun H1 e1 => ?_
    have d1 := d.mono e1
    obtain ⟨b, hb, hS⟩ := d1.tups.get (i := i) (r := rowD r) (by rw [List.getElem?_map, hr']; rfl)
    refine s_ret (ev_op (ev_op (ev_fld (ev_var rfl) d1.ob T.clD T.nD_parts (docF_parts _ _ _)) (ev_var rfl) (rv_ixT d1.parts (atI_nat (refs_at hb)))) ev_c (rv_ixT (i := 0) hS rfl)) fun H2 e2 => k H2 (e1.trans e2)
def spDEnd (K : PySem.W.Frag) (CD : Addr) : Sp := spV fun vs H v => ∃ (a : Addr) (rows : List DR) (i : Nat), vs = [.ref a, .int (i : Int)] ∧ DocOb K CD H a rows ∧ i < rows.length ∧ v = .int ((BM.endAt (BM.dds rows) i : Nat) : Int)
theorem sc_Document_end_of : FnScope ["self", "part"] ["self", "part"] (defScope s_Document_end_of) := ⟨rfl, rfl, rfl, by decide +kernel, rfl, by decide +kernel, by decide +kernel⟩
theorem m_Document_end_of (T : Txt K mg CD CQ CS CA) : Mt P w K mg base CD "end_of" 4 ["self", "part"] (spDEnd K CD) := by
  refine Mt.of T.m_Document_end_of sc_Document_end_of (fun _ _ _ _ _ _ us hl => match us, hl with | [_, _], _ => rfl) (fun vs H Q E h => ?_) (fun f cdv A outer s H vs Q E hr h => ?_)
  · obtain ⟨v, ⟨a, rows, i, rfl, _⟩, _⟩ := h
    rfl
  · obtain ⟨v, ⟨a, rows, i, rfl, ⟨dx, t, e, u, as, d⟩, hi, rfl⟩, k⟩ := h
    refine ⟨_, (pss_cons (ps_expr (Mt.pe T.clD (by exact m_Document_need_part T) (hr.mono (by decide)) (pv 0) (pa_cons (pv 1) pa_nil)))
  (pss_one (ps_ret (pe_ix ix_list (pe_fld (pv 0) rfl) (pv 1) (fun _ _ => rfl))))), ?_⟩
    refine q_drop (ev_methV (ev_var rfl) d.ob (docF_no _ _ _ (by decide +kernel) (by decide +kernel) (by decide +kernel)) (ea_cons (ev_var rfl) ea_nil) fun H1 e1 => ⟨a, rows, i, rfl, ⟨dx, t, e, u, as, d.mono e1⟩, hi, rfl⟩) fun H1 e1 => ?_
    have d1 := d.mono e1
    exact s_ret (ev_op (ev_fld (ev_var rfl) d1.ob T.clD T.nD_ends (docF_ends _ _ _)) (ev_var rfl) (rv_ixL d1.ends (d1.ends_at hi))) fun H2 e2 => k H2 (e1.trans e2)
def spDUp (K : PySem.W.Frag) (CD : Addr) : Sp := spV fun vs H v => ∃ (a : Addr) (rows : List DR) (i : Nat), vs = [.ref a, .int (i : Int)] ∧ DocOb K CD H a rows ∧ i < rows.length ∧ v = optV (BM.upAt (BM.dds rows) i)
theorem sc_Document_upper_of : FnScope ["self", "part"] ["self", "part"] (defScope s_Document_upper_of) := ⟨rfl, rfl, rfl, by decide +kernel, rfl, by decide +kernel, by decide +kernel⟩
theorem m_Document_upper_of (T : Txt K mg CD CQ CS CA) : Mt P w K mg base CD "upper_of" 4 ["self", "part"] (spDUp K CD) := by
  refine Mt.of T.m_Document_upper_of sc_Document_upper_of (fun _ _ _ _ _ _ us hl => match us, hl with | [_, _], _ => rfl) (fun vs H Q E h => ?_) (fun f cdv A outer s H vs Q E hr h => ?_)
  · obtain ⟨v, ⟨a, rows, i, rfl, _⟩, _⟩ := h
    rfl
  · obtain ⟨v, ⟨a, rows, i, rfl, ⟨dx, t, e, u, as, d⟩, hi, rfl⟩, k⟩ := h
    refine ⟨_, (pss_cons (ps_expr (Mt.pe T.clD (by exact m_Document_need_part T) (hr.mono (by decide)) (pv 0) (pa_cons (pv 1) pa_nil)))
  (pss_one (ps_ret (pe_ix ix_list (pe_fld (pv 0) rfl) (pv 1) (fun _ _ => rfl))))), ?_⟩
    refine q_drop (ev_methV (ev_var rfl) d.ob (docF_no _ _ _ (by decide +kernel) (by decide +kernel) (by decide +kernel)) (ea_cons (ev_var rfl) ea_nil) fun H1 e1 => ⟨a, rows, i, rfl, ⟨dx, t, e, u, as, d.mono e1⟩, hi, rfl⟩) fun H1 e1 => ?_
    have d1 := d.mono e1
    exact s_ret (ev_op (ev_fld (ev_var rfl) d1.ob T.clD T.nD_uppers (docF_uppers _ _ _)) (ev_var rfl) (rv_ixL d1.ups (d1.ups_at hi))) fun H2 e2 => k H2 (e1.trans e2)
/-- the lowers of a place -/
def lowsOf (ds : List Nat) (i : Nat) : List Nat := ((List.range (BM.endAt ds i - i)).filter fun j => decide (BM.upAt ds (i + 1 + j) = some i)).map fun j => i + 1 + j
theorem mem_lows {ds : List Nat} (G : BM.Good ds) {i m : Nat} : m ∈ lowsOf ds i ↔ m < ds.length ∧ BM.upAt ds m = some i := by
  unfold lowsOf
  rw [List.mem_map]
  constructor
  · rintro ⟨j, hj, rfl⟩
    obtain ⟨h1, h2⟩ := List.mem_filter.mp hj
    have h3 := of_decide_eq_true h2
    have h4 := List.mem_range.mp h1
    by_cases hi : i < ds.length
    · have := BM.end_lt hi
      exact ⟨by omega, h3⟩
    · exfalso
      have : ds.drop (i + 1) = [] := List.drop_of_length_le (by omega)
      unfold BM.endAt at h4
      rw [this] at h4
      simp at h4
  · rintro ⟨h1, h2⟩
    have a := G.up_anc h1 h2
    obtain ⟨a1, a2⟩ := a
    exact ⟨m - (i + 1), List.mem_filter.mpr ⟨List.mem_range.mpr (by omega), decide_eq_true (by rw [show i + 1 + (m - (i + 1)) = m by omega]; exact h2)⟩, by omega⟩
theorem lows_len {ds : List Nat} {i : Nat} (h : i < ds.length) : (lowsOf ds i).length ≤ ds.length := by
  unfold lowsOf
  rw [List.length_map]
  have := List.length_filter_le (fun j => decide (BM.upAt ds (i + 1 + j) = some i)) (List.range (BM.endAt ds i - i))
  rw [List.length_range] at this
  have := BM.end_lt h
  omega
theorem lows_given (ds : List Nat) (i : Nat) : given (BM.endAt ds i - i) (fun j => decide (BM.upAt ds (i + 1 + j) = some i)) (fun j => .int ((i + 1 + j : Nat) : Int)) = natV (lowsOf ds i) := by
  unfold given natV lowsOf
  rw [List.map_map]
  rfl
theorem beq_optV {o : Option Nat} {i : Nat} : decide (optV o = .int (i : Int)) = decide (o = some i) := by
  by_cases h : o = some i
  · rw [decide_eq_true h, decide_eq_true (optV_int.mpr h)]
  · rw [decide_eq_false h, decide_eq_false (fun q => h (optV_int.mp q))]
theorem scal_optV (o : Option Nat) (i : Int) : scal (optV o) (.int i) = true := by
  cases o <;> rfl
def spDLows (K : PySem.W.Frag) (CD : Addr) : Sp := spN fun vs H P => ∃ (a : Addr) (rows : List DR) (i : Nat), vs = [.ref a, .int (i : Int)] ∧ DocOb K CD H a rows ∧ rows.length ≤ 1000 ∧ i < rows.length ∧ P = fun p H2 => H2 p = some (.lst (natV (lowsOf (BM.dds rows) i)))
theorem sc_Document_lowers_of : FnScope ["self", "part", "other"] ["self", "part"] (defScope s_Document_lowers_of) := ⟨rfl, rfl, rfl, by decide +kernel, rfl, by decide +kernel, by decide +kernel⟩
theorem m_Document_lowers_of (T : Txt K mg CD CQ CS CA) : Mt P w K mg base CD "lowers_of" 4 ["self", "part"] (spDLows K CD) := by
  refine Mt.of T.m_Document_lowers_of sc_Document_lowers_of (fun _ _ _ _ _ _ us hl => match us, hl with | [_, _], _ => rfl) (fun vs H Q E h => ?_) (fun f cdv A outer s H vs Q E hr h => ?_)
  · obtain ⟨P, ⟨a, rows, i, rfl, _⟩, _⟩ := h
    rfl
  · obtain ⟨P', ⟨a, rows, i, rfl, ⟨dx, t, e, u, as, d⟩, hz, hi, rfl⟩, k⟩ := h
    refine ⟨_, (pss_cons (ps_expr (Mt.pe T.clD (by exact m_Document_need_part T) (hr.mono (by decide)) (pv 0) (pa_cons (pv 1) pa_nil)))
  (pss_one (ps_ret (pe_lc (own := [("other", 2)]) (g := (gName 2)) rfl sc_Document_lowers_of.nd (pi_range2 rfl T.z_range (pa_cons (pe_op op_add (pv 1) pe_int) (pa_cons (pe_op op_add (pe_ix ix_list (pe_fld (pv 0) rfl) (pv 1) (fun _ _ => rfl)) pe_int) pa_nil))) (blkOk_by (by kernel_rfl)) (fun _ _ _ _ _ => (pg_name (i := 2) sc_Document_lowers_of.nd rfl (Or.inl rfl))) (fun _ _ _ _ _ => (pts_one (pt_cmpR op_eq (pe_ix (show IxR _ (rIxL K) from ix_list) (show PE _ _ (tFld K _ _) from pe_fld (pv 0) rfl) (pv 2) (fun _ _ => rfl)) (pv 1) (nomark _)))) (fun _ _ _ _ _ => (pv 2)))))), ?_⟩
    refine q_drop (ev_methV (ev_var rfl) d.ob (docF_no _ _ _ (by decide +kernel) (by decide +kernel) (by decide +kernel)) (ea_cons (ev_var rfl) ea_nil) fun H1 e1 => ⟨a, rows, i, rfl, ⟨dx, t, e, u, as, d.mono e1⟩, hi, rfl⟩) fun H1 e1 => ?_
    have d1 := d.mono e1
    have hil : i < (BM.dds rows).length := by rw [BM.dds_len]; exact hi
    have hel := BM.end_lt hil
    rw [BM.dds_len] at hel
    have heg := BM.end_ge (BM.dds rows) i
    have en : (((BM.endAt (BM.dds rows) i : Nat) : Int) + 1 - ((i : Int) + 1)).toNat = BM.endAt (BM.dds rows) i - i := by omega
    have hl := el_lcN (σ := [some (.ref a), some (.int (i : Int)), none]) (H := H1) (wi := iRng2 (tCons (tOp (rI0 fun i j => .int (i + j)) (tVar 1) (tC (.int 1))) (tCons (tOp (rI0 fun i j => .int (i + j)) (tOp (rIxL K) (tFld K (tVar 0) "ends") (tVar 1)) (tC (.int 1))) tNil)))
      (t := tTest (tOp rEq (tOp (rIxL K) (tFld K (tVar 0) "uppers") (tVar 2)) (tVar 1))) (te := tVar 2) (j := 2) (ws := [2]) (fun j => decide (BM.upAt (BM.dds rows) (i + 1 + j) = some i)) (fun j => .int ((i + 1 + j : Nat) : Int)) (by rw [en]; omega)
      (ei_range2 (i := (i : Int) + 1) (j := ((BM.endAt (BM.dds rows) i : Nat) : Int) + 1) (ev_op (ev_var rfl) ev_c rv_I0) (ev_op (ev_op (ev_fld (ev_var rfl) d1.ob T.clD T.nD_ends (docF_ends _ _ _)) (ev_var rfl) (rv_ixL d1.ends (d1.ends_at hi))) ev_c rv_I0) (by omega)) walk_range (fun _ _ => True.intro) (fun _ _ _ _ y => y.1) (fun _ => rfl) (fun j x H2 hj e2 y => by
        rw [en] at hj
        have d2 := d1.mono e2
        have ex : ((i : Int) + 1 + (j : Int)) = ((i + 1 + j : Nat) : Int) := by omega
        have hx : x = .int ((i + 1 + j : Nat) : Int) := by
          rw [y.2]
          exact congrArg V.int ex
        subst hx
        exact ⟨et_is (et_test (ev_op (ev_op (ev_fld (ev_var rfl) d2.ob T.clD T.nD_uppers (docF_uppers _ _ _)) (ev_var rfl) (rv_ixL d2.ups (d2.ups_at (by omega)))) (ev_var rfl) (rv_eq (scal_optV _ _)))) beq_optV, fun _ => ev_var rfl⟩)
    rw [en, lows_given] at hl
    exact s_retL hl fun p H2 hp e2 hp2 => k p H2 (fresh_back e1 hp) (e1.trans e2) hp2
def spDBen (K : PySem.W.Frag) (CD : Addr) : Sp := spV fun vs H v => ∃ (a : Addr) (rows : List DR) (p o : Nat), vs = [.ref a, .int (p : Int), .int (o : Int)] ∧ DocOb K CD H a rows ∧ p < rows.length ∧ o < rows.length ∧ v = .bl (decide (o < p) && decide (p ≤ BM.endAt (BM.dds rows) o))
theorem sc_Document_is_beneath : FnScope ["self", "part", "other"] ["self", "part", "other"] (defScope s_Document_is_beneath) := ⟨rfl, rfl, rfl, by decide +kernel, rfl, by decide +kernel, by decide +kernel⟩
theorem m_Document_is_beneath (T : Txt K mg CD CQ CS CA) : Mt P w K mg base CD "is_beneath" 4 ["self", "part", "other"] (spDBen K CD) := by
  refine Mt.of T.m_Document_is_beneath sc_Document_is_beneath (fun _ _ _ _ _ _ us hl => match us, hl with | [_, _, _], _ => rfl) (fun vs H Q E h => ?_) (fun f cdv A outer s H vs Q E hr h => ?_)
  · obtain ⟨v, ⟨a, rows, p, o, rfl, _⟩, _⟩ := h
    rfl
  · obtain ⟨v, ⟨a, rows, p, o, rfl, ⟨dx, t, e, u, as, d⟩, hp, ho, rfl⟩, k⟩ := h
    refine ⟨_, (pss_cons (ps_expr (Mt.pe T.clD (by exact m_Document_need_part T) (hr.mono (by decide)) (pv 0) (pa_cons (pv 1) pa_nil)))
  (pss_cons (ps_expr (Mt.pe T.clD (by exact m_Document_need_part T) (hr.mono (by decide)) (pv 0) (pa_cons (pv 2) pa_nil)))
  (pss_one (ps_ret (pe_chain op_lt op_le (pv 2) (pv 1) (pe_ix ix_list (pe_fld (pv 0) rfl) (pv 2) (fun _ _ => rfl))))))), ?_⟩
    refine q_drop (ev_methV (ev_var rfl) d.ob (docF_no _ _ _ (by decide +kernel) (by decide +kernel) (by decide +kernel)) (ea_cons (ev_var rfl) ea_nil) fun H1 e1 => ⟨a, rows, p, rfl, ⟨dx, t, e, u, as, d.mono e1⟩, hp, rfl⟩) fun H1 e1 => ?_
    have d1 := d.mono e1
    refine q_drop (ev_methV (ev_var rfl) d1.ob (docF_no _ _ _ (by decide +kernel) (by decide +kernel) (by decide +kernel)) (ea_cons (ev_var rfl) ea_nil) fun H1 e1 => ⟨a, rows, o, rfl, ⟨dx, t, e, u, as, d1.mono e1⟩, ho, rfl⟩) fun H2 e2 => ?_
    have d2 := d1.mono e2
    refine s_ret (ev_is (et_chain (ev_var rfl) (ev_var rfl) (ev_op (ev_fld (ev_var rfl) d2.ob T.clD T.nD_ends (docF_ends _ _ _)) (ev_var rfl) (rv_ixL d2.ends (d2.ends_at ho))) (rv_I0 (i := (o : Int)) (j := (p : Int))) fun _ => rv_I0 (i := (p : Int)) (j := ((BM.endAt (BM.dds rows) o : Nat) : Int))) (by
      congr 2
      · exact decide_eq_decide.mpr Int.ofNat_lt
      · exact decide_eq_decide.mpr Int.ofNat_le)) fun H3 e3 => k H3 ((e1.trans e2).trans e3)
/-- the parts of a label -/
def partsOf (rows : List DR) (z : Str) : List Nat := (List.range rows.length).filter fun i => decide ((rows[i]?).map (·.1) = some z)
def spDParts (K : PySem.W.Frag) (CD : Addr) : Sp := spN fun vs H P => ∃ (a : Addr) (rows : List DR) (z : Str), vs = [.ref a, .str z] ∧ DocOb K CD H a rows ∧ rows.length ≤ 1000 ∧ P = fun p H2 => H2 p = some (.lst (natV (partsOf rows z)))
theorem sc_Document_parts_of : FnScope ["self", "label", "part", "row"] ["self", "label"] (defScope s_Document_parts_of) := ⟨rfl, rfl, rfl, by decide +kernel, rfl, by decide +kernel, by decide +kernel⟩
theorem m_Document_parts_of (T : Txt K mg CD CQ CS CA) : Mt P w K mg base CD "parts_of" 1 ["self", "label"] (spDParts K CD) := by
  refine Mt.of T.m_Document_parts_of sc_Document_parts_of (fun _ _ _ _ _ _ us hl => match us, hl with | [_, _], _ => rfl) (fun vs H Q E h => ?_) (fun f cdv A outer s H vs Q E hr h => ?_)
  · obtain ⟨P, ⟨a, rows, z, rfl, _⟩, _⟩ := h
    rfl
  · obtain ⟨P', ⟨a, rows, z, rfl, ⟨dx, t, e, u, as, d⟩, hz, rfl⟩, k⟩ := h
    refine ⟨_, (pss_one (ps_ret (pe_lc (own := [("part", 2), ("row", 3)]) (g := (gTup K 2 (gCons (gName 2) (gCons (gName 3) gNil)))) rfl sc_Document_parts_of.nd (pi_enumT (by rfl) T.z_enumerate (pa_cons (pe_fld (pv 0) rfl) pa_nil)) (blkOk_by (by kernel_rfl)) (fun _ _ _ _ _ => (pg_tup rfl (pgs_cons (pg_name (i := 2) sc_Document_parts_of.nd rfl (Or.inl rfl)) (pgs_cons (pg_name (i := 3) sc_Document_parts_of.nd rfl (Or.inl rfl)) pgs_nil)))) (fun _ _ _ _ _ => (pts_one (pt_cmpR op_eq (pe_ix (show IxR _ (rIxT K) from ix_tup) (pv 3) pe_int (fun _ _ => rfl)) (pv 1) (nomark _)))) (fun _ _ _ _ _ => (pv 2))))), ?_⟩
    have hl := el_lcP (K := K) (σ := [some (.ref a), some (.str z), none, none]) (H := H) (wi := iEnumT K (tCons (tFld K (tVar 0) "parts") tNil))
      (t := tTest (tOp rEq (tOp (rIxT K) (tVar 3) (tC (.int 0))) (tVar 1))) (te := tVar 2) (j := 2) (l := 3) (ws := [2, 3]) (fun i => decide ((rows[i]?).map (·.1) = some z)) (fun i => .int ((i : Nat) : Int)) (by rw [List.length_map, d.many]; omega)
      (ei_enumT (ev_fld (ev_var rfl) d.ob T.clD T.nD_parts (docF_parts _ _ _)) d.parts) walk_enumT (fun H1 e1 => ex_t e1 d.parts) (fun _ _ => rfl) (fun i x y H1 hi e1 hx hy => by
        cases hx
        obtain ⟨b, hb, rfl⟩ := refs_back hy
        rw [List.length_map, d.many] at hi
        have hS := ex_t e1 (d.tups.at_ i b _ hb (row_at hi))
        refine ⟨et_is (et_test (ev_op (ev_op (ev_var rfl) ev_c (rv_ixT (i := 0) hS rfl)) (ev_var rfl) (rv_eq rfl))) ?_, fun _ => ev_var rfl⟩
        rw [List.getElem?_eq_getElem hi]
        show decide (V.str rows[i].1 = V.str z) = decide (some rows[i].1 = some z)
        by_cases q : rows[i].1 = z
        · rw [decide_eq_true (by rw [q]), decide_eq_true (by rw [q])]
        · rw [decide_eq_false (fun w => q (by injection w)), decide_eq_false (fun w => q (by injection w))])
    have hg : given (refsV as).length (fun i => decide ((rows[i]?).map (·.1) = some z)) (fun i => .int ((i : Nat) : Int)) = natV (partsOf rows z) := by
      unfold given natV partsOf
      rw [List.length_map, d.many]
    rw [hg] at hl
    exact s_retL hl fun p H2 hp e2 hp2 => k p H2 hp e2 hp2
end
end Bo
set_option Elab.async false
set_option linter.all false
set_option maxRecDepth 100000
set_option maxHeartbeats 4000000
namespace Bo
open PySem PySem.Spec PyProof.Rows L2 Evl BK BL
section
variable {P : Program} {w : World} {K : PySem.W.Frag} {mg : Str → Option Value} {base : Heap} {CD CQ CS CA : Addr}
/-! ### lists of new objects by a comprehension -/
structure Objs (H0 H : Hp) (n : Nat) (S : Nat → HO → Prop) (as : List Addr) : Prop where
  len : as.length = n
  at_ : ∀ (j : Nat) (a : Addr), as[j]? = some a → ∃ o, H a = some o ∧ S j o
  nd : as.Nodup
  new : ∀ a ∈ as, H0 a = none
theorem nd_snoc' {l : List Addr} {a : Addr} (h : l.Nodup) (ha : a ∉ l) : (l ++ [a]).Nodup := by
  rw [List.nodup_append]
  exact ⟨h, by simp, fun x hx y hy => by
    rw [List.mem_singleton.mp hy]
    intro e
    exact ha (e ▸ hx)⟩
theorem Objs.snoc {H0 H H2 : Hp} {n : Nat} {S : Nat → HO → Prop} {as : List Addr} {a : Addr} {o : HO} (O : Objs H0 H n S as) (ha : H a = none) (h0 : H0 a = none) (e : ∀ b u, b ∈ as → H b = some u → H2 b = some u) (h : H2 a = some o) (hS : S n o) : Objs H0 H2 (n + 1) S (as ++ [a]) := by
  refine ⟨by rw [List.length_append, O.len]; rfl, fun j b hb => ?_, nd_snoc' O.nd fun hm => ?_, fun b hb => ?_⟩
  · by_cases hj : j < n
    · rw [List.getElem?_append_left (by rw [O.len]; exact hj)] at hb
      obtain ⟨u, h1, h2⟩ := O.at_ j b hb
      exact ⟨u, e b u (List.mem_of_getElem? hb) h1, h2⟩
    · rw [List.getElem?_append_right (by rw [O.len]; omega), O.len] at hb
      have hz : j - n = 0 := by
        by_cases z : j - n = 0
        · exact z
        · rw [List.getElem?_eq_none (by rw [List.length_singleton]; omega)] at hb
          cases hb
      rw [hz] at hb
      have e1 : a = b := by simpa using hb
      have e2 : j = n := by omega
      rw [← e1, e2]
      exact ⟨o, h, hS⟩
  · obtain ⟨j, hj⟩ := List.getElem?_of_mem hm
    obtain ⟨u, h1, _⟩ := O.at_ j a hj
    rw [ha] at h1
    cases h1
  · rcases List.mem_append.mp hb with q | q
    · exact O.new b q
    · rw [List.mem_singleton.mp q]
      exact h0
theorem en_lcO {σ : L2.St} {H : Hp} {J : It} {n : Nat} {G : Hp → Prop} {Y : Nat → Hp → V → Hp → Prop} {wi : TI} {g : TG} {te : TE} {ws : List Nat} (S : Nat → HO → Prop) (hn : n ≤ 40000) (hi : EvI wi σ H J) (w : Walk J n G Y) (hG : ∀ H1, Ex H H1 → G H1)
    (hg : ∀ i x H1 H2, i < n → Ex H H1 → Y i H1 x H2 → ∃ σ2, Ex H1 H2 ∧ (∀ R : L2.St → Hp → Prop, R σ2 H2 → g x (wipe σ ws) H2 R) ∧ wipe σ2 ws = wipe σ ws ∧ EvN te σ2 H2 (fun a H3 => ∃ o, H3 a = some o ∧ S i o)) :
    EvN (tLc wi g tYes te ws) σ H (fun p H2 => ∃ as, H2 p = some (.lst (refsV as)) ∧ Objs H H2 n S as ∧ p ∉ as) := fun H0 e Q q =>
  hi H0 e _ fun H1 e1 => fun D hD => lc_it w (fun i H' => Ex H1 H' ∧ ∃ as, H' D = some (.lst (refsV as)) ∧ Objs H1 H' i S as ∧ D ∉ as)
    ⟨Ex.new hD, [], upd_same, ⟨rfl, fun j a h => by simp at h, List.nodup_nil, fun a h => by simp at h⟩, by simp⟩ (fun i H' _ p => hG H' ((e.trans e1).trans p.1)) (fun i x Ha Hb hi2 p y => by
    obtain ⟨p1, as, p2, p3, p4⟩ := p
    obtain ⟨σ2, ex, hgo, hw, hel⟩ := hg i x Ha Hb hi2 ((e.trans e1).trans p1) y
    refine hgo _ ⟨hw, ?_⟩
    show te σ2 Hb fun y H4 => ∃ acc, H4 D = some (.lst acc) ∧ acc.length < sizeLine ∧ _
    refine hel Hb (Ex.refl Hb) _ fun a H4 ha e4 ⟨o, ho, hS⟩ => ⟨refsV as, e4 _ _ (ex _ _ p2), by rw [List.length_map, p3.len]; exact sz_lt (by omega), Ex.mut ((p1.trans ex).trans e4) hD, as ++ [a], ?_, ?_, ?_⟩
    · rw [upd_same]
      show _ = some (HO.lst ((as ++ [a]).map V.ref))
      rw [List.map_append]
      rfl
    · have haD : a ≠ D := fun z => by
        rw [z, ex _ _ p2] at ha
        cases ha
      refine p3.snoc (fresh_back ex ha) (fresh_back (p1.trans ex) ha) (fun b u hb hu => ?_) (by rw [upd_ne haD]; exact ho) hS
      rw [upd_ne (fun z : b = D => p4 (by rw [← z]; exact hb))]
      exact e4 _ _ (ex _ _ hu)
    · intro hm
      rcases List.mem_append.mp hm with z | z
      · exact p4 z
      · rw [← List.mem_singleton.mp z, ex _ _ p2] at ha
        cases ha) fun H' p => by
    obtain ⟨p1, as, p2, p3, p4⟩ := p
    exact q D H' (fresh_back e1 hD) (e1.trans p1) ⟨as, p2, ⟨p3.len, p3.at_, p3.nd, fun a ha => fresh_back (e.trans e1) (p3.new a ha)⟩, p4⟩
theorem evN_imp {te : TE} {σ : L2.St} {H : Hp} {P P' : Addr → Hp → Prop} (h : EvN te σ H P) (i : ∀ p H2, Ex H H2 → P p H2 → P' p H2) : EvN te σ H P' := fun H0 e Q q => h H0 e Q fun p H2 hp e2 hP => q p H2 hp e2 (i p H2 (e.trans e2) hP)
theorem en_tupleO {ta : TE} {σ : L2.St} {H : Hp} {R : List V → Hp → Prop} (h : EvN ta σ H (fun p H2 => ∃ xs, H2 p = some (.lst xs) ∧ R xs H2)) (hm : ∀ xs H1 H2, Ex H1 H2 → R xs H1 → R xs H2) :
    EvN (tCB (fun vs H Q => ∃ p ys, vs = [.ref p] ∧ ((SqL K H p ys ∧ ∀ l, H l = none → Q (.ref l) (upd H l (.tup ys))) ∨ (SqT K H p ys ∧ Q (.ref p) H))) (tCons ta tNil)) σ H (fun l H2 => ∃ xs, H2 l = some (.tup xs) ∧ R xs H2) := fun H1 e Q q =>
  h H1 e _ fun p H2 hp e2 ⟨xs, h1, h2⟩ => ⟨p, xs, rfl, .inl ⟨sq_of h1, fun l hl => q l _ (fresh_back e2 hl) (e2.trans (Ex.new hl)) ⟨xs, upd_same, hm _ _ _ (Ex.new hl) h2⟩⟩⟩
/-- a new instance -/
theorem en_make {σ : L2.St} {H : Hp} {tg : TA} {vs : List V} {C : Addr} {sp : Sp} {E : XK} {P : Addr → Hp → Prop} (h : EvA tg σ H vs)
    (hsp : ∀ H1 x dx, Ex H H1 → H1 x = none → H1 dx = none → dx ≠ x → ∀ Q' : VK, (∀ H2, ExB x (upd (upd H1 dx (.own x)) x (.ins C dx [])) H2 → P x H2 → Q' .non H2) → sp (.ref x :: (vs ++ [])) (upd (upd H1 dx (.own x)) x (.ins C dx [])) Q' E) : EvN (tMake C sp [] E tg) σ H P := fun H0 e Q q =>
  h H0 e _ fun H1 e1 => fun x dx hx hdx hne => hsp H1 x dx (e.trans e1) hx hdx hne _ fun H2 b hP => ⟨rfl, q x H2 (fresh_back e1 hx) (e1.trans fun c o hc => b c o (fun z => by rw [z, hx] at hc; cases hc) (by
    rw [upd_ne (fun z => by rw [z, hx] at hc; cases hc), upd_ne (fun z => by rw [z, hdx] at hc; cases hc)]
    exact hc)) hP⟩
/-! ### steps -/
def spStepInit (C : Addr) : Sp := fun vs H Q _ => ∃ (x dx : Addr) (l : Str), vs = [.ref x, .str l] ∧ H x = some (.ins C dx []) ∧ ∀ H2, ExB x H H2 → H2 x = some (.ins C dx (stepF l)) → Q .non H2
theorem sc_Step___init : FnScope ["self", "label"] ["self", "label"] (defScope s_Step___init__) := ⟨rfl, rfl, rfl, by decide +kernel, rfl, by decide +kernel, by decide +kernel⟩
theorem c_Straight (T : Txt K mg CD CQ CS CA) : Ctor P w K mg base "Straight" CS 1 ["self", "label"] (spStepInit CS) := by
  refine Ctor.of T.i_Straight T.mkS T.kpS T.xS sc_Step___init (fun _ _ _ _ _ _ us hl => match us, hl with | [_, _], _ => rfl) (fun vs H Q E h => ?_) (fun f cdv A outer s H vs Q E hr h => ?_)
  · obtain ⟨x, dx, l, rfl, _⟩ := h
    rfl
  · obtain ⟨x, dx, l, rfl, hx, k⟩ := h
    refine ⟨_, (pss_one (ps_fld (pv 0) (pv 1) rfl)), ?_⟩
    exact s_fldV (ev_var rfl) rfl hx T.clS T.nS_label (by show 0 < 1000; decide) fun H1 e1 => k _ (ExB.of e1).upd upd_same
theorem c_Anywhere (T : Txt K mg CD CQ CS CA) : Ctor P w K mg base "Anywhere" CA 1 ["self", "label"] (spStepInit CA) := by
  refine Ctor.of T.i_Anywhere T.mkA T.kpA T.xA sc_Step___init (fun _ _ _ _ _ _ us hl => match us, hl with | [_, _], _ => rfl) (fun vs H Q E h => ?_) (fun f cdv A outer s H vs Q E hr h => ?_)
  · obtain ⟨x, dx, l, rfl, _⟩ := h
    rfl
  · obtain ⟨x, dx, l, rfl, hx, k⟩ := h
    refine ⟨_, (pss_one (ps_fld (pv 0) (pv 1) rfl)), ?_⟩
    exact s_fldV (ev_var rfl) rfl hx T.clA T.nA_label (by show 0 < 1000; decide) fun H1 e1 => k _ (ExB.of e1).upd upd_same
def spWay (z : Str) : Sp := spV fun vs H v => ∃ a : Addr, vs = [.ref a] ∧ v = .str z
theorem sc_Straight_way : FnScope ["self"] ["self"] (defScope s_Straight_way) := ⟨rfl, rfl, rfl, by decide +kernel, rfl, by decide +kernel, by decide +kernel⟩
theorem m_Straight_way (T : Txt K mg CD CQ CS CA) : Mt P w K mg base CS "way" 1 ["self"] (spWay "/") := by
  refine Mt.of T.m_Straight_way sc_Straight_way (fun _ _ _ _ _ _ us hl => match us, hl with | [_], _ => rfl) (fun vs H Q E h => ?_) (fun f cdv A outer s H vs Q E hr h => ?_)
  · obtain ⟨v, ⟨a, rfl, _⟩, _⟩ := h
    rfl
  · obtain ⟨v, ⟨a, rfl, rfl⟩, k⟩ := h
    refine ⟨_, (pss_one (ps_ret pe_str)), ?_⟩
    exact s_ret ev_c k
theorem sc_Anywhere_way : FnScope ["self"] ["self"] (defScope s_Anywhere_way) := ⟨rfl, rfl, rfl, by decide +kernel, rfl, by decide +kernel, by decide +kernel⟩
theorem m_Anywhere_way (T : Txt K mg CD CQ CS CA) : Mt P w K mg base CA "way" 1 ["self"] (spWay "//") := by
  refine Mt.of T.m_Anywhere_way sc_Anywhere_way (fun _ _ _ _ _ _ us hl => match us, hl with | [_], _ => rfl) (fun vs H Q E h => ?_) (fun f cdv A outer s H vs Q E hr h => ?_)
  · obtain ⟨v, ⟨a, rfl, _⟩, _⟩ := h
    rfl
  · obtain ⟨v, ⟨a, rfl, rfl⟩, k⟩ := h
    refine ⟨_, (pss_one (ps_ret pe_str)), ?_⟩
    exact s_ret ev_c k
def stepIs (CS CA : Addr) (b : Bool) (l : Str) (o : HO) : Prop := ∃ dx, o = .ins (if b = true then CA else CS) dx (stepF l)
def spStepOf (CS CA : Addr) : Sp := spN fun vs H P => ∃ (b : Bool) (l : Str), vs = [.str (wayS b), .str l] ∧ P = fun p H2 => ∃ o, H2 p = some o ∧ stepIs CS CA b l o
theorem sc_step_of : FnScope ["way", "label"] ["way", "label"] (defScope s_step_of) := ⟨rfl, rfl, rfl, by decide +kernel, rfl, by decide +kernel, by decide +kernel⟩
theorem fn_step_of (T : Txt K mg CD CQ CS CA) : Fn P w K mg base "step_of" 3 ["way", "label"] (spStepOf CS CA) := by
  refine Fn.of T.g_step_of sc_step_of (fun _ _ _ _ _ _ us hl => match us, hl with | [_, _], _ => rfl) (fun vs H Q E h => ?_) (fun f cdv A outer s H vs Q E hr h => ?_)
  · obtain ⟨P, ⟨b, l, rfl, _⟩, _⟩ := h
    rfl
  · obtain ⟨P', ⟨b, l, rfl, rfl⟩, k⟩ := h
    refine ⟨_, (pss_cons (ps_if (pt_cmpR op_eq (pv 0) pe_str (nomark _)) (pss_one (ps_ret (Ctor.pe (by exact c_Straight T) (hr.mono (by decide)) (by rfl) (pa_cons (pv 1) pa_nil)))) pss_nil)
  (pss_one (ps_ret (Ctor.pe (by exact c_Anywhere T) (hr.mono (by decide)) (by rfl) (pa_cons (pv 1) pa_nil))))), ?_⟩
    have hb : decide (V.str (wayS b) = V.str "/") = !b := by
      cases b <;> decide +kernel
    refine q_when (b := !b) (et_is (et_test (ev_op (ev_var rfl) ev_c (rv_eq rfl))) hb) (fun q H1 e1 => ?_) fun q H1 e1 => ?_
    · have hbf : b = false := by
        cases b with
        | false => rfl
        | true => cases q
      subst hbf
      exact (en_make (P := fun p H2 => ∃ o, H2 p = some o ∧ stepIs CS CA false l o) (ea_cons (ev_var rfl) ea_nil) fun H2 x dx e2 hx hdx hne Q' q' => ⟨x, dx, l, rfl, upd_same, fun H3 b3 h3 => q' H3 b3 ⟨_, h3, dx, rfl⟩⟩) H1 (Ex.refl H1) _ fun p H2 hp e2 hP => k p H2 (fresh_back e1 hp) (e1.trans e2) hP
    · have hbf : b = true := by
        cases b with
        | true => rfl
        | false => cases q
      subst hbf
      exact (en_make (P := fun p H2 => ∃ o, H2 p = some o ∧ stepIs CS CA true l o) (ea_cons (ev_var rfl) ea_nil) fun H2 x dx e2 hx hdx hne Q' q' => ⟨x, dx, l, rfl, upd_same, fun H3 b3 h3 => q' H3 b3 ⟨_, h3, dx, rfl⟩⟩) H1 (Ex.refl H1) _ fun p H2 hp e2 hP => k p H2 (fresh_back e1 hp) (e1.trans e2) hP
/-! ### the question made -/
def spQueInit (K : PySem.W.Frag) (CQ CS CA : Addr) : Sp := fun vs H Q _ => ∃ (x dx a : Addr) (rows : List QR) (w : Nat), vs = [.ref x, .ref a, .int (w : Int)] ∧ H x = some (.ins CQ dx []) ∧ RowsAt K H a (rows.map rowQ) ∧ OkQ rows ∧ w < rows.length ∧ ∀ H2, ExB x H H2 → QueOb K CQ CS CA H2 x rows w → Q .non H2
theorem sc_Question___init : FnScope ["self", "rows", "wanted", "deepest", "number", "row"] ["self", "rows", "wanted"] (defScope s_Question___init__) := ⟨rfl, rfl, rfl, by decide +kernel, rfl, by decide +kernel, by decide +kernel⟩
theorem c_Question (T : Txt K mg CD CQ CS CA) : Ctor P w K mg base "Question" CQ 4 ["self", "rows", "wanted"] (spQueInit K CQ CS CA) := by
  refine Ctor.of T.i_Question T.mkQ T.kpQ T.xQ sc_Question___init (fun _ _ _ _ _ _ us hl => match us, hl with | [_, _, _], _ => rfl) (fun vs H Q E h => ?_) (fun f cdv A outer s H vs Q E hr h => ?_)
  · obtain ⟨x, dx, a, rows, w, rfl, _⟩ := h
    rfl
  · obtain ⟨x, dx, a, rows, w, rfl, hx, hR, O, hwn, k⟩ := h
    obtain ⟨tMOST_STEPS, hMOST_STEPS⟩ := T.c_MOST_STEPS
    obtain ⟨tMOST_DEEP_question, hMOST_DEEP_question⟩ := T.c_MOST_DEEP_question
    refine ⟨_, (pss_cons (ps_if (PW.pt (pw_or (pt_not (pt_val (pe_callB call_isi (by rfl) T.z_isinstance (by decide +kernel) (pa_cons (pv 1) (pa_cons (pe_bltn (v := .ty "list") (by rfl) T.z_list (by decide +kernel) rfl) pa_nil))))) (pw_or1 (pt_cmpR (op_eqD hr.units) (pv 1) (pe_lst pa_nil) (nomark _))))) (pss_one ps_never) pss_nil)
  (pss_cons (ps_if (pt_cmpR op_gt (pe_callB call_len_seq (by rfl) T.z_len (by decide +kernel) (pa_cons (pv 1) pa_nil)) (pe_glob (v := .int 100) (by rfl) hMOST_STEPS ⟨_, rfl⟩) (nomark _)) (pss_one ps_never) pss_nil)
  (pss_cons (ps_set (i := 3) sc_Question___init.nd rfl (Or.inl rfl) pe_int)
  (pss_cons (ps_for PassesOwn.never rfl (pi_enum (by rfl) T.z_enumerate (pa_cons (pv 1) pa_nil)) (pg_tup rfl (pgs_cons (pg_name (i := 4) sc_Question___init.nd rfl (Or.inl rfl)) (pgs_cons (pg_name (i := 5) sc_Question___init.nd rfl (Or.inl rfl)) pgs_nil))) (pss_cons (ps_if (PW.pt (pw_or (pt_not (pt_val (Fn.pe (by exact fn_is_step_row T) (hr.mono (by decide)) (by rfl) (pa_cons (pv 5) (pa_cons (pe_callB (call_min2 rfl) (by rfl) T.z_min (by decide +kernel) (pa_cons (pv 3) (pa_cons (pe_glob (v := .int 30) (by rfl) hMOST_DEEP_question ⟨_, rfl⟩) pa_nil))) pa_nil))))) (pw_or1 (PW.pt (pw_and (pt_cmpR op_gt (pv 4) pe_int (nomark _)) (pw_and1 (pt_cmpR op_eq (pe_ix ix_tup (pv 5) pe_int (fun _ _ => rfl)) pe_int (nomark _)))))))) (pss_one ps_never) pss_nil)
  (pss_one (ps_set (i := 3) sc_Question___init.nd rfl (Or.inl rfl) (pe_op op_add (pe_ix ix_tup (pv 5) pe_int (fun _ _ => rfl)) pe_int)))))
  (pss_cons (ps_if (pt_not (pt_val (Fn.pe (by exact fn_is_within T) (hr.mono (by decide)) (by rfl) (pa_cons (pv 2) (pa_cons pe_int (pa_cons (pe_op op_sub (pe_callB call_len_seq (by rfl) T.z_len (by decide +kernel) (pa_cons (pv 1) pa_nil)) pe_int) pa_nil)))))) (pss_one ps_never) pss_nil)
  (pss_cons (ps_fld (pv 0) (pe_callTy call_tuple_of (by rfl) T.z_tuple (by decide +kernel) (pa_cons (pv 1) pa_nil)) rfl)
  (pss_cons (ps_fld (pv 0) (pv 2) rfl)
  (pss_cons (ps_fld (pv 0) (pe_callTy call_tuple_of (by rfl) T.z_tuple (by decide +kernel) (pa_cons (pe_lc (own := [("row", 5)]) (g := (gName 5)) rfl sc_Question___init.nd (pi_list (pv 1)) (blkOk_by (by kernel_rfl)) (fun _ _ _ _ _ => (pg_name (i := 5) sc_Question___init.nd rfl (Or.inl rfl))) (fun _ _ _ _ _ => pts_nil) (fun _ _ _ _ _ => (Fn.pe (by exact fn_step_of T) (hr.mono (by decide)) (by rfl) (pa_cons (pe_ix (show IxR _ (rIxT K) from ix_tup) (pv 5) pe_int (fun _ _ => rfl)) (pa_cons (pe_ix (show IxR _ (rIxT K) from ix_tup) (pv 5) pe_int (fun _ _ => rfl)) pa_nil))))) pa_nil)) rfl)
  (pss_cons (ps_fld (pv 0) (Fn.pe (by exact fn_ends_by T) (hr.mono (by decide)) (by rfl) (pa_cons (pe_lc (own := [("row", 5)]) (g := (gName 5)) rfl sc_Question___init.nd (pi_list (pv 1)) (blkOk_by (by kernel_rfl)) (fun _ _ _ _ _ => (pg_name (i := 5) sc_Question___init.nd rfl (Or.inl rfl))) (fun _ _ _ _ _ => pts_nil) (fun _ _ _ _ _ => (pe_ix (show IxR _ (rIxT K) from ix_tup) (pv 5) pe_int (fun _ _ => rfl)))) pa_nil)) rfl)
  (pss_one (ps_fld (pv 0) (Fn.pe (by exact fn_uppers_by T) (hr.mono (by decide)) (by rfl) (pa_cons (pe_lc (own := [("row", 5)]) (g := (gName 5)) rfl sc_Question___init.nd (pi_list (pv 1)) (blkOk_by (by kernel_rfl)) (fun _ _ _ _ _ => (pg_name (i := 5) sc_Question___init.nd rfl (Or.inl rfl))) (fun _ _ _ _ _ => pts_nil) (fun _ _ _ _ _ => (pe_ix (show IxR _ (rIxT K) from ix_tup) (pv 5) pe_int (fun _ _ => rfl)))) pa_nil)) rfl))))))))))), ?_⟩
    have hpos := O.pos
    obtain ⟨as, hA, hT⟩ := id hR
    have hlen : as.length = rows.length := by rw [hT.len, List.length_map]
    have hmany := O.many
    refine q_when (b := false) (et_is (et_or (et_not (et_B (ev_isi (ev_var rfl) (fun _ e => tyx_l (ex_l e hA)) (kit_ty (b := "list") (r := true) (by decide +kernel))))) fun _ => et_test (ev_eq_nil (ds := rows.map dRowQ) (ev_var rfl) (fun H1 e => dp_rowsQ (hR.mono e)) (shaped_rowsQ O.lab))) (by
      cases rows with
      | nil => simp at hpos
      | cons r rs => rfl)) (fun q => by cases q) fun _ H1 e1 => ?_
    refine q_when (b := false) (et_is (et_test (ev_op (ev_len (ev_var rfl) (ex_l e1 hA)) ev_c rv_I0)) (by
      refine decide_eq_false ?_
      rw [List.length_map, hlen]
      omega)) (fun q => by cases q) fun _ H2 e2 => ?_
    have e12 := e1.trans e2
    refine q_asg ev_c fun H3 e3 => ?_
    have e13 := e12.trans e3
    refine q_forI (ei_enum (ev_var rfl) (ex_l e13 hA)) walk_enum (fun i σ' H' => ∃ v3 v4 : Option V, σ' = [some (.ref x), some (.ref a), some (.int (w : Int)), some (.int (if i = 0 then 1 else (BM.dep (BM.qds rows) (i - 1) : Int) + 1)), v3, v4] ∧ Ex H H')
      (fun H4 e4 => ⟨none, none, rfl, e13.trans e4⟩) (fun i σ' H' _ ⟨_, _, _, e⟩ => ex_l e hA) ?_ ?_
    · rintro i y σ' H' H'' hi ⟨v3, v4, rfl, e⟩ hy
      rw [List.length_map, hlen] at hi
      refine g_pair hy fun u v hu hv e' => ?_
      cases hu
      obtain ⟨b, hb, rfl⟩ := refs_back hv
      have e'' := e.trans e'
      have hrow : SqT K H'' b (rowQ rows[i]) := ex_t e'' (hT.at_ i b _ hb (rowq_at hi))
      have hmem : rows[i] ∈ rows := List.getElem_mem hi
      have hlab := O.lab _ hmem
      have hdeep := O.deep _ hmem
      have hd : BM.dep (BM.qds rows) i = rows[i].2.2 := qds_at hi
      have hdl : i < (BM.qds rows).length := by rw [BM.qds_len]; exact hi
      have h1 := O.good.one_le hdl
      refine q_when (b := false) (et_is (et_or (a := false) (b := false) (et_is (et_not (et_B (ev_callV (z := .bl true) (ea_cons (ev_var rfl) (ea_cons (ev_min2 (ev_var rfl) ev_c) ea_nil)) fun H4 e4 => ⟨b, rows[i], _, rfl, ex_t e4 hrow, hlab, by omega, by
        by_cases z : i = 0
        · subst z
          have := O.good.first
          rw [if_pos rfl]
          split <;> omega
        · have := O.good.step i (by omega) hdl
          rw [if_neg z]
          split <;> omega, rfl⟩))) rfl) fun _ => et_is (et_and (et_test (ev_op (ev_var rfl) ev_c rv_I0)) fun _ => et_test (ev_op (ev_op (ev_var rfl) ev_c (rv_ixT (i := 2) hrow rfl)) ev_c (rv_eq rfl))) (by
        by_cases z : i = 0
        · subst z
          rfl
        · have := O.good.low i (by omega) hdl
          have hne : ¬ (V.int ((rows[i].2.2 : Nat) : Int) = V.int 1) := fun q => by
            injection q with q
            omega
          rw [decide_eq_false hne, Bool.and_false])) rfl) (fun q => by cases q) fun _ H4 e4 => ?_
      refine s_asg (ev_op (ev_op (ev_var rfl) ev_c (rv_ixT (i := 2) (ex_t e4 hrow) rfl)) ev_c rv_I0) fun H5 e5 => ?_
      refine ⟨some (.int (i : Int)), some (.ref b), ?_, e''.trans (e4.trans e5)⟩
      rw [if_neg (Nat.succ_ne_zero i), Nat.add_sub_cancel, hd]
      rfl
    · rintro σ' H' ⟨v3, v4, rfl, e⟩
      refine q_when (b := false) (et_is (et_not (et_B (ev_callV (z := .bl true) (ea_cons (ev_var rfl) (ea_cons ev_c (ea_cons (ev_op (ev_len (ev_var rfl) (ex_l e hA)) ev_c rv_I0) ea_nil))) fun _ _ => ⟨(w : Int), 0, _, rfl, by
        rw [decide_eq_true (show (0 : Int) ≤ (w : Int) by omega), decide_eq_true (by rw [List.length_map, hlen]; omega)]
        rfl⟩))) rfl) (fun q => by cases q) fun _ H0 e0 => ?_
      have e := e.trans e0
      generalize hdd : (V.int (if (refsV as).length = 0 then 1 else (BM.dep (BM.qds rows) ((refsV as).length - 1) : Int) + 1)) = vd
      refine q_fldN (en_tuple (ev_var rfl) (ex_l e hA)) rfl (e _ _ hx) T.clQ T.nQ_given_rows (by show 0 < 1000; decide) fun t H4 t0 e4 ht => ?_
      have x4 : H4 x = some (.ins CQ dx []) := e4 _ _ (e _ _ hx)
      have ntx : t ≠ x := ne_of ht x4 (fun q => by cases q)
      have b4 : ExB x H (upd H4 x (.ins CQ dx (putF "given_rows" (.ref t) []))) := (ExB.of (e.trans e4)).upd
      refine q_fldV (ev_var rfl) rfl upd_same T.clQ T.nQ_goal (by show 1 < 1000; decide) fun H5 e5 => ?_
      have b5 : ExB x H (upd H5 x (.ins CQ dx (putF "goal" (.int (w : Int)) (putF "given_rows" (.ref t) [])))) := (b4.trans (ExB.of e5)).upd
      have hA5 := exb_l b5 hx hA
      have hT5 := hT.exb b5 hx
      have hst := en_lcO (σ := [some (.ref x), some (.ref a), some (.int (w : Int)), some vd, v3, v4]) (g := gName 5) (te := tCall (spStepOf CS CA) [] E0 (tCons (tOp (rIxT K) (tVar 5) (tC (.int 0))) (tCons (tOp (rIxT K) (tVar 5) (tC (.int 1))) tNil))) (ws := [5]) (H := upd H5 x (.ins CQ dx (putF "goal" (.int (w : Int)) (putF "given_rows" (.ref t) []))))
        (fun i o => ∃ r, rows[i]? = some r ∧ stepIs CS CA r.1 r.2.1 o) (by rw [List.length_map]; omega) (ei_list (K := K) (ta := tVar 1) (ev_var rfl) hA5) walk_list (fun _ e => ex_l e hA5) (fun i y H6 H7 hi e6 hy => by
          obtain ⟨rfl, hy⟩ := hy
          obtain ⟨b, hb, rfl⟩ := refs_back hy
          have hi' : i < rows.length := by
            rw [List.length_map, hlen] at hi
            exact hi
          have hrow := ex_t e6 (hT5.at_ i b _ hb (rowq_at hi'))
          exact ⟨_, Ex.refl _, fun R r => r, rfl, fun H8 e8 Q8 q8 => en_call (P := fun p H2 => ∃ o, H2 p = some o ∧ stepIs CS CA rows[i].1 rows[i].2.1 o) (ea_cons (ev_op (ev_var rfl) ev_c (rv_ixT (i := 0) hrow rfl)) (ea_cons (ev_op (ev_var rfl) ev_c (rv_ixT (i := 1) hrow rfl)) ea_nil)) (fun H9 e9 => ⟨rows[i].1, rows[i].2.1, rfl, rfl⟩) H8 e8 Q8 fun p H9 hp e9 ⟨o, ho, hs⟩ => q8 p H9 hp e9 ⟨o, ho, rows[i], List.getElem?_eq_getElem hi', hs⟩⟩)
      have hst' := evN_imp hst (P' := fun p H2 => ∃ xs, H2 p = some (.lst xs) ∧ ∃ ss, xs = refsV ss ∧ Stps CS CA H2 ss rows) fun p H6 _ ⟨ss, h1, h2, h3⟩ => ⟨refsV ss, h1, ss, rfl, by rw [h2.len, List.length_map, hlen], fun i a r ha hr => by
        obtain ⟨o, h4, r', h5, dx', h6⟩ := h2.at_ i a ha
        rw [hr] at h5
        cases h5
        exact ⟨dx', by rw [← h6]; exact h4⟩⟩
      refine q_fldN (en_tupleO hst' fun xs H1 H2 e ⟨ss, z, hs⟩ => ⟨ss, z, hs.mono e⟩) rfl upd_same T.clQ T.nQ_steps (by show 2 < 1000; decide) fun st H6 s0 e6 ⟨_, hss, ss, z, hstp⟩ => ?_
      subst z
      have x6 : H6 x = some (.ins CQ dx (putF "goal" (.int (w : Int)) (putF "given_rows" (.ref t) []))) := e6 _ _ upd_same
      have nsx : st ≠ x := ne_of hss x6 (fun q => by cases q)
      have b6 : ExB x H (upd H6 x (.ins CQ dx (putF "steps" (.ref st) (putF "goal" (.int (w : Int)) (putF "given_rows" (.ref t) []))))) := (b5.trans (ExB.of e6)).upd
      refine q_fldN (en_call1L (el_col (g := fun (r : QR) => r.2.2) (j := 5) (ws := [5]) (c := 2) (ev_var rfl) ⟨as, exb_l b6 hx hA, hT.exb b6 hx⟩ (by omega) (fun _ => rfl) (fun _ => rfl) fun _ => rfl) fun p H7 e7 hp => ⟨p, BM.qds rows, rfl, sq_of hp, O.good, by rw [BM.qds_len]; omega, rfl⟩) rfl upd_same T.clQ T.nQ_ends (by show 3 < 1000; decide) fun en H7 n0 e7 hen => ?_
      have x7 : H7 x = some (.ins CQ dx (putF "steps" (.ref st) (putF "goal" (.int (w : Int)) (putF "given_rows" (.ref t) [])))) := e7 _ _ upd_same
      have nex : en ≠ x := ne_of hen x7 (fun q => by cases q)
      have b7 : ExB x H (upd H7 x (.ins CQ dx (putF "ends" (.ref en) (putF "steps" (.ref st) (putF "goal" (.int (w : Int)) (putF "given_rows" (.ref t) [])))))) := (b6.trans (ExB.of e7)).upd
      refine s_fldN (en_call1L (el_col (g := fun (r : QR) => r.2.2) (j := 5) (ws := [5]) (c := 2) (ev_var rfl) ⟨as, exb_l b7 hx hA, hT.exb b7 hx⟩ (by omega) (fun _ => rfl) (fun _ => rfl) fun _ => rfl) fun p H8 e8 hp => ⟨p, BM.qds rows, rfl, sq_of hp, O.good, by rw [BM.qds_len]; omega, rfl⟩) rfl upd_same T.clQ T.nQ_uppers (by show 4 < 1000; decide) fun up H8 u0 e8 hup => ?_
      have x8 : H8 x = some (.ins CQ dx (putF "ends" (.ref en) (putF "steps" (.ref st) (putF "goal" (.int (w : Int)) (putF "given_rows" (.ref t) []))))) := e8 _ _ upd_same
      have nux : up ≠ x := ne_of hup x8 (fun q => by cases q)
      have b8 : ExB x H (upd H8 x (.ins CQ dx (queF t (w : Int) st en up))) := (b7.trans (ExB.of e8)).upd
      have t5 : H5 t = some (.tup (refsV as)) := e5 _ _ (by rw [upd_ne ntx]; exact ht)
      have t8 : H8 t = some (.tup (refsV as)) := e8 _ _ (by rw [upd_ne ntx]; exact e7 _ _ (by rw [upd_ne ntx]; exact e6 _ _ (by rw [upd_ne ntx]; exact t5)))
      have b68 : ExB x H6 (upd H8 x (.ins CQ dx (queF t (w : Int) st en up))) := fun b o hb hbo => by
        rw [upd_ne hb]
        exact e8 _ _ (by rw [upd_ne hb]; exact e7 _ _ (by rw [upd_ne hb]; exact hbo))
      have n8 : H8 en = some (.lst (natV (ensOf (BM.qds rows)))) := e8 _ _ (by rw [upd_ne nex]; exact hen)
      refine k _ b8 ⟨dx, t, st, en, up, as, ss, upd_same, st_of (by rw [upd_ne ntx]; exact t8), hT.exb b8 hx, st_of (b68 _ _ nsx hss), ⟨hstp.len, fun i a r ha hr => ?_⟩, sq_of (by rw [upd_ne nex]; exact n8), sq_of (by rw [upd_ne nux]; exact hup)⟩
      obtain ⟨dx', hdx'⟩ := hstp.at_ i a r ha hr
      refine ⟨dx', b68 _ _ (fun z => ?_) hdx'⟩
      rw [z, x6] at hdx'
      injection hdx' with q
      injection q with _ _ q3
      have := congrArg (fun l => List.lookup ("label" : Str) l) q3
      rw [stepF_lab] at this
      rw [lookup_putF, if_neg (by decide +kernel), lookup_putF, if_neg (by decide +kernel)] at this
      cases this
end
end Bo
set_option Elab.async false
set_option linter.all false
set_option maxRecDepth 100000
set_option maxHeartbeats 4000000
namespace Bo
open PySem PySem.Spec PyProof.Rows L2 Evl BK BL
section
variable {P : Program} {w : World} {K : PySem.W.Frag} {mg : Str → Option Value} {base : Heap} {CD CQ CS CA : Addr}
/-! ### the question's methods -/
section
variable {H : Hp} {a : Addr} {rows : List QR} {w0 : Nat} {dx g s e u : Addr} {as ss : List Addr}
theorem QueAt.ends_at (d : QueAt K CQ CS CA H a rows w0 dx g s e u as ss) {i : Nat} (h : i < rows.length) : atI (natV (ensOf (BM.qds rows))) (i : Int) = some (.int ((BM.endAt (BM.qds rows) i : Nat) : Int)) := atI_nat (natV_at (ensOf_at (by rw [BM.qds_len]; exact h)))
theorem QueAt.ups_at (d : QueAt K CQ CS CA H a rows w0 dx g s e u as ss) {i : Nat} (h : i < rows.length) : atI (optsV (upsOf (BM.qds rows))) (i : Int) = some (optV (BM.upAt (BM.qds rows) i)) := atI_nat (optsV_at (upsOf_at (by rw [BM.qds_len]; exact h)))
theorem QueAt.many (d : QueAt K CQ CS CA H a rows w0 dx g s e u as ss) : as.length = rows.length := by rw [d.tups.len, List.length_map]
end
abbrev qno {g s e u : Addr} {w : Int} {m : Str} (h1 : ¬ m = "uppers") (h2 : ¬ m = "ends") (h3 : ¬ m = "steps") (h4 : ¬ m = "goal") (h5 : ¬ m = "given_rows") : (queF g w s e u).lookup m = none := queF_no g w s e u h1 h2 h3 h4 h5
theorem q_need (g : Addr) (w : Int) (s e u : Addr) : (queF g w s e u).lookup ("need_step" : Str) = none := queF_no g w s e u (by decide +kernel) (by decide +kernel) (by decide +kernel) (by decide +kernel) (by decide +kernel)
def spQNeed (K : PySem.W.Frag) (CQ CS CA : Addr) : Sp := spV fun vs H v => ∃ (a : Addr) (rows : List QR) (w i : Nat), vs = [.ref a, .int (i : Int)] ∧ QueOb K CQ CS CA H a rows w ∧ i < rows.length ∧ v = .non
theorem sc_Question_need_step : FnScope ["self", "step"] ["self", "step"] (defScope s_Question_need_step) := ⟨rfl, rfl, rfl, by decide +kernel, rfl, by decide +kernel, by decide +kernel⟩
theorem m_Question_need_step (T : Txt K mg CD CQ CS CA) : Mt P w K mg base CQ "need_step" 3 ["self", "step"] (spQNeed K CQ CS CA) := by
  refine Mt.of T.m_Question_need_step sc_Question_need_step (fun _ _ _ _ _ _ us hl => match us, hl with | [_, _], _ => rfl) (fun vs H Q E h => ?_) (fun f cdv A outer s H vs Q E hr h => ?_)
  · obtain ⟨v, ⟨a, rows, w0, i, rfl, _⟩, _⟩ := h
    rfl
  · obtain ⟨v, ⟨a, rows, w0, i, rfl, ⟨dx, t, st, e, u, as, ss, d⟩, hi, rfl⟩, k⟩ := h
    refine ⟨_, (pss_one (ps_if (pt_not (pt_val (Fn.pe (by exact fn_is_within T) (hr.mono (by decide)) (by rfl) (pa_cons (pv 1) (pa_cons pe_int (pa_cons (pe_op op_sub (pe_callB call_len_seq (by rfl) T.z_len (by decide +kernel) (pa_cons (pe_fld (pv 0) rfl) pa_nil)) pe_int) pa_nil)))))) (pss_one ps_never) pss_nil)), ?_⟩
    refine s_when (b := false) (et_is (et_not (et_B (ev_callV (z := .bl true) (ea_cons (ev_var rfl) (ea_cons ev_c (ea_cons (ev_op (ev_lenT (ev_fld (ev_var rfl) d.ob T.clQ T.nQ_given_rows (queF_rows _ _ _ _ _)) d.given) ev_c rv_I0) ea_nil))) fun _ _ => ⟨(i : Int), 0, _, rfl, by
      rw [decide_eq_true (show (0 : Int) ≤ (i : Int) by omega), decide_eq_true (by rw [List.length_map, d.many]; omega)]
      rfl⟩))) rfl) (fun q => by cases q) fun _ H1 e1 => k H1 e1
def spQMany (K : PySem.W.Frag) (CQ CS CA : Addr) : Sp := spV fun vs H v => ∃ (a : Addr) (rows : List QR) (w : Nat), vs = [.ref a] ∧ QueOb K CQ CS CA H a rows w ∧ v = .int ((rows.length : Nat) : Int)
theorem sc_Question_many : FnScope ["self"] ["self"] (defScope s_Question_many) := ⟨rfl, rfl, rfl, by decide +kernel, rfl, by decide +kernel, by decide +kernel⟩
theorem m_Question_many (T : Txt K mg CD CQ CS CA) : Mt P w K mg base CQ "many" 1 ["self"] (spQMany K CQ CS CA) := by
  refine Mt.of T.m_Question_many sc_Question_many (fun _ _ _ _ _ _ us hl => match us, hl with | [_], _ => rfl) (fun vs H Q E h => ?_) (fun f cdv A outer s H vs Q E hr h => ?_)
  · obtain ⟨v, ⟨a, rows, w0, rfl, _⟩, _⟩ := h
    rfl
  · obtain ⟨v, ⟨a, rows, w0, rfl, ⟨dx, t, st, e, u, as, ss, d⟩, rfl⟩, k⟩ := h
    refine ⟨_, (pss_one (ps_ret (pe_callB call_len_seq (by rfl) T.z_len (by decide +kernel) (pa_cons (pe_fld (pv 0) rfl) pa_nil)))), ?_⟩
    exact s_ret (ev_int (ev_lenT (ev_fld (ev_var rfl) d.ob T.clQ T.nQ_given_rows (queF_rows _ _ _ _ _)) d.given) (by rw [List.length_map, d.many])) k
def spQStep (K : PySem.W.Frag) (CQ CS CA : Addr) : Sp := fun vs H Q _ => ∃ (a : Addr) (rows : List QR) (w i : Nat) (r : QR), vs = [.ref a, .int (i : Int)] ∧ QueOb K CQ CS CA H a rows w ∧ rows[i]? = some r ∧ ∀ p H2, Ex H H2 → StepOb CS CA H2 p r → Q (.ref p) H2
theorem sc_Question_step_at : FnScope ["self", "step"] ["self", "step"] (defScope s_Question_step_at) := ⟨rfl, rfl, rfl, by decide +kernel, rfl, by decide +kernel, by decide +kernel⟩
theorem m_Question_step_at (T : Txt K mg CD CQ CS CA) : Mt P w K mg base CQ "step_at" 4 ["self", "step"] (spQStep K CQ CS CA) := by
  refine Mt.of T.m_Question_step_at sc_Question_step_at (fun _ _ _ _ _ _ us hl => match us, hl with | [_, _], _ => rfl) (fun vs H Q E h => ?_) (fun f cdv A outer s H vs Q E hr h => ?_)
  · obtain ⟨a, rows, w0, i, r, rfl, _⟩ := h
    rfl
  · obtain ⟨a, rows, w0, i, r, rfl, ⟨dx, t, st, e, u, as, ss, d⟩, hr', k⟩ := h
    refine ⟨_, (pss_cons (ps_expr (Mt.pe T.clQ (by exact m_Question_need_step T) (hr.mono (by decide)) (pv 0) (pa_cons (pv 1) pa_nil)))
  (pss_one (ps_ret (pe_ix ix_tup (pe_fld (pv 0) rfl) (pv 1) (fun _ _ => rfl))))), ?_⟩
    have hi := (List.getElem?_eq_some_iff.mp hr').1
    refine q_drop (ev_methV (ev_var rfl) d.ob (q_need _ _ _ _ _) (ea_cons (ev_var rfl) ea_nil) fun H1 e1 => ⟨a, rows, w0, i, rfl, ⟨dx, t, st, e, u, as, ss, d.mono e1⟩, hi, rfl⟩) fun H1 e1 => ?_
    have d1 := d.mono e1
    obtain ⟨b, hb, hS⟩ := d1.stps.get hr'
    exact s_ret (ev_op (ev_fld (ev_var rfl) d1.ob T.clQ T.nQ_steps (queF_steps _ _ _ _ _)) (ev_var rfl) (rv_ixT d1.steps (atI_nat (refs_at hb)))) fun H2 e2 => k b H2 (e1.trans e2) (hS.mono e2)
def spQDepth (K : PySem.W.Frag) (CQ CS CA : Addr) : Sp := spV fun vs H v => ∃ (a : Addr) (rows : List QR) (w i : Nat) (r : QR), vs = [.ref a, .int (i : Int)] ∧ QueOb K CQ CS CA H a rows w ∧ rows[i]? = some r ∧ v = .int ((r.2.2 : Nat) : Int)
theorem sc_Question_depth_of : FnScope ["self", "step"] ["self", "step"] (defScope s_Question_depth_of) := ⟨rfl, rfl, rfl, by decide +kernel, rfl, by decide +kernel, by decide +kernel⟩
theorem m_Question_depth_of (T : Txt K mg CD CQ CS CA) : Mt P w K mg base CQ "depth_of" 4 ["self", "step"] (spQDepth K CQ CS CA) := by
  refine Mt.of T.m_Question_depth_of sc_Question_depth_of (fun _ _ _ _ _ _ us hl => match us, hl with | [_, _], _ => rfl) (fun vs H Q E h => ?_) (fun f cdv A outer s H vs Q E hr h => ?_)
  · obtain ⟨v, ⟨a, rows, w0, i, r, rfl, _⟩, _⟩ := h
    rfl
  · obtain ⟨v, ⟨a, rows, w0, i, r, rfl, ⟨dx, t, st, e, u, as, ss, d⟩, hr', rfl⟩, k⟩ := h
    refine ⟨_, (pss_cons (ps_expr (Mt.pe T.clQ (by exact m_Question_need_step T) (hr.mono (by decide)) (pv 0) (pa_cons (pv 1) pa_nil)))
  (pss_one (ps_ret (pe_ix ix_tup (pe_ix ix_tup (pe_fld (pv 0) rfl) (pv 1) (fun _ _ => rfl)) pe_int (fun _ _ => rfl))))), ?_⟩
    have hi := (List.getElem?_eq_some_iff.mp hr').1
    refine q_drop (ev_methV (ev_var rfl) d.ob (q_need _ _ _ _ _) (ea_cons (ev_var rfl) ea_nil) fun H1 e1 => ⟨a, rows, w0, i, rfl, ⟨dx, t, st, e, u, as, ss, d.mono e1⟩, hi, rfl⟩) fun H1 e1 => ?_
    have d1 := d.mono e1
    obtain ⟨b, hb, hS⟩ := d1.tups.get (i := i) (r := rowQ r) (by rw [List.getElem?_map, hr']; rfl)
    exact s_ret (ev_op (ev_op (ev_fld (ev_var rfl) d1.ob T.clQ T.nQ_given_rows (queF_rows _ _ _ _ _)) (ev_var rfl) (rv_ixT d1.given (atI_nat (refs_at hb)))) ev_c (rv_ixT (i := 2) hS rfl)) fun H2 e2 => k H2 (e1.trans e2)
def spQEnd (K : PySem.W.Frag) (CQ CS CA : Addr) : Sp := spV fun vs H v => ∃ (a : Addr) (rows : List QR) (w i : Nat), vs = [.ref a, .int (i : Int)] ∧ QueOb K CQ CS CA H a rows w ∧ i < rows.length ∧ v = .int ((BM.endAt (BM.qds rows) i : Nat) : Int)
theorem sc_Question_end_of : FnScope ["self", "step"] ["self", "step"] (defScope s_Question_end_of) := ⟨rfl, rfl, rfl, by decide +kernel, rfl, by decide +kernel, by decide +kernel⟩
theorem m_Question_end_of (T : Txt K mg CD CQ CS CA) : Mt P w K mg base CQ "end_of" 4 ["self", "step"] (spQEnd K CQ CS CA) := by
  refine Mt.of T.m_Question_end_of sc_Question_end_of (fun _ _ _ _ _ _ us hl => match us, hl with | [_, _], _ => rfl) (fun vs H Q E h => ?_) (fun f cdv A outer s H vs Q E hr h => ?_)
  · obtain ⟨v, ⟨a, rows, w0, i, rfl, _⟩, _⟩ := h
    rfl
  · obtain ⟨v, ⟨a, rows, w0, i, rfl, ⟨dx, t, st, e, u, as, ss, d⟩, hi, rfl⟩, k⟩ := h
    refine ⟨_, (pss_cons (ps_expr (Mt.pe T.clQ (by exact m_Question_need_step T) (hr.mono (by decide)) (pv 0) (pa_cons (pv 1) pa_nil)))
  (pss_one (ps_ret (pe_ix ix_list (pe_fld (pv 0) rfl) (pv 1) (fun _ _ => rfl))))), ?_⟩
    refine q_drop (ev_methV (ev_var rfl) d.ob (q_need _ _ _ _ _) (ea_cons (ev_var rfl) ea_nil) fun H1 e1 => ⟨a, rows, w0, i, rfl, ⟨dx, t, st, e, u, as, ss, d.mono e1⟩, hi, rfl⟩) fun H1 e1 => ?_
    have d1 := d.mono e1
    exact s_ret (ev_op (ev_fld (ev_var rfl) d1.ob T.clQ T.nQ_ends (queF_ends _ _ _ _ _)) (ev_var rfl) (rv_ixL d1.ends (d1.ends_at hi))) fun H2 e2 => k H2 (e1.trans e2)
def spQUp (K : PySem.W.Frag) (CQ CS CA : Addr) : Sp := spV fun vs H v => ∃ (a : Addr) (rows : List QR) (w i : Nat), vs = [.ref a, .int (i : Int)] ∧ QueOb K CQ CS CA H a rows w ∧ i < rows.length ∧ v = optV (BM.upAt (BM.qds rows) i)
theorem sc_Question_upper_of : FnScope ["self", "step"] ["self", "step"] (defScope s_Question_upper_of) := ⟨rfl, rfl, rfl, by decide +kernel, rfl, by decide +kernel, by decide +kernel⟩
theorem m_Question_upper_of (T : Txt K mg CD CQ CS CA) : Mt P w K mg base CQ "upper_of" 4 ["self", "step"] (spQUp K CQ CS CA) := by
  refine Mt.of T.m_Question_upper_of sc_Question_upper_of (fun _ _ _ _ _ _ us hl => match us, hl with | [_, _], _ => rfl) (fun vs H Q E h => ?_) (fun f cdv A outer s H vs Q E hr h => ?_)
  · obtain ⟨v, ⟨a, rows, w0, i, rfl, _⟩, _⟩ := h
    rfl
  · obtain ⟨v, ⟨a, rows, w0, i, rfl, ⟨dx, t, st, e, u, as, ss, d⟩, hi, rfl⟩, k⟩ := h
    refine ⟨_, (pss_cons (ps_expr (Mt.pe T.clQ (by exact m_Question_need_step T) (hr.mono (by decide)) (pv 0) (pa_cons (pv 1) pa_nil)))
  (pss_one (ps_ret (pe_ix ix_list (pe_fld (pv 0) rfl) (pv 1) (fun _ _ => rfl))))), ?_⟩
    refine q_drop (ev_methV (ev_var rfl) d.ob (q_need _ _ _ _ _) (ea_cons (ev_var rfl) ea_nil) fun H1 e1 => ⟨a, rows, w0, i, rfl, ⟨dx, t, st, e, u, as, ss, d.mono e1⟩, hi, rfl⟩) fun H1 e1 => ?_
    have d1 := d.mono e1
    exact s_ret (ev_op (ev_fld (ev_var rfl) d1.ob T.clQ T.nQ_uppers (queF_uppers _ _ _ _ _)) (ev_var rfl) (rv_ixL d1.ups (d1.ups_at hi))) fun H2 e2 => k H2 (e1.trans e2)
def spQLows (K : PySem.W.Frag) (CQ CS CA : Addr) : Sp := spN fun vs H P => ∃ (a : Addr) (rows : List QR) (w i : Nat), vs = [.ref a, .int (i : Int)] ∧ QueOb K CQ CS CA H a rows w ∧ rows.length ≤ 1000 ∧ i < rows.length ∧ P = fun p H2 => H2 p = some (.lst (natV (lowsOf (BM.qds rows) i)))
theorem sc_Question_lowers_of : FnScope ["self", "step", "other"] ["self", "step"] (defScope s_Question_lowers_of) := ⟨rfl, rfl, rfl, by decide +kernel, rfl, by decide +kernel, by decide +kernel⟩
theorem m_Question_lowers_of (T : Txt K mg CD CQ CS CA) : Mt P w K mg base CQ "lowers_of" 4 ["self", "step"] (spQLows K CQ CS CA) := by
  refine Mt.of T.m_Question_lowers_of sc_Question_lowers_of (fun _ _ _ _ _ _ us hl => match us, hl with | [_, _], _ => rfl) (fun vs H Q E h => ?_) (fun f cdv A outer s H vs Q E hr h => ?_)
  · obtain ⟨P, ⟨a, rows, w0, i, rfl, _⟩, _⟩ := h
    rfl
  · obtain ⟨P', ⟨a, rows, w0, i, rfl, ⟨dx, t, st, e, u, as, ss, d⟩, hz, hi, rfl⟩, k⟩ := h
    refine ⟨_, (pss_cons (ps_expr (Mt.pe T.clQ (by exact m_Question_need_step T) (hr.mono (by decide)) (pv 0) (pa_cons (pv 1) pa_nil)))
  (pss_one (ps_ret (pe_lc (own := [("other", 2)]) (g := (gName 2)) rfl sc_Question_lowers_of.nd (pi_range2 rfl T.z_range (pa_cons (pe_op op_add (pv 1) pe_int) (pa_cons (pe_op op_add (pe_ix ix_list (pe_fld (pv 0) rfl) (pv 1) (fun _ _ => rfl)) pe_int) pa_nil))) (blkOk_by (by kernel_rfl)) (fun _ _ _ _ _ => (pg_name (i := 2) sc_Question_lowers_of.nd rfl (Or.inl rfl))) (fun _ _ _ _ _ => (pts_one (pt_cmpR op_eq (pe_ix (show IxR _ (rIxL K) from ix_list) (show PE _ _ (tFld K _ _) from pe_fld (pv 0) rfl) (pv 2) (fun _ _ => rfl)) (pv 1) (nomark _)))) (fun _ _ _ _ _ => (pv 2)))))), ?_⟩
    refine q_drop (ev_methV (ev_var rfl) d.ob (q_need _ _ _ _ _) (ea_cons (ev_var rfl) ea_nil) fun H1 e1 => ⟨a, rows, w0, i, rfl, ⟨dx, t, st, e, u, as, ss, d.mono e1⟩, hi, rfl⟩) fun H1 e1 => ?_
    have d1 := d.mono e1
    have hil : i < (BM.qds rows).length := by rw [BM.qds_len]; exact hi
    have hel := BM.end_lt hil
    rw [BM.qds_len] at hel
    have heg := BM.end_ge (BM.qds rows) i
    have en : (((BM.endAt (BM.qds rows) i : Nat) : Int) + 1 - ((i : Int) + 1)).toNat = BM.endAt (BM.qds rows) i - i := by omega
    have hl := el_lcN (σ := [some (.ref a), some (.int (i : Int)), none]) (H := H1) (wi := iRng2 (tCons (tOp (rI0 fun i j => .int (i + j)) (tVar 1) (tC (.int 1))) (tCons (tOp (rI0 fun i j => .int (i + j)) (tOp (rIxL K) (tFld K (tVar 0) "ends") (tVar 1)) (tC (.int 1))) tNil)))
      (t := tTest (tOp rEq (tOp (rIxL K) (tFld K (tVar 0) "uppers") (tVar 2)) (tVar 1))) (te := tVar 2) (j := 2) (ws := [2]) (fun j => decide (BM.upAt (BM.qds rows) (i + 1 + j) = some i)) (fun j => .int ((i + 1 + j : Nat) : Int)) (by rw [en]; omega)
      (ei_range2 (i := (i : Int) + 1) (j := ((BM.endAt (BM.qds rows) i : Nat) : Int) + 1) (ev_op (ev_var rfl) ev_c rv_I0) (ev_op (ev_op (ev_fld (ev_var rfl) d1.ob T.clQ T.nQ_ends (queF_ends _ _ _ _ _)) (ev_var rfl) (rv_ixL d1.ends (d1.ends_at hi))) ev_c rv_I0) (by omega)) walk_range (fun _ _ => True.intro) (fun _ _ _ _ y => y.1) (fun _ => rfl) (fun j x H2 hj e2 y => by
        rw [en] at hj
        have d2 := d1.mono e2
        have ex : ((i : Int) + 1 + (j : Int)) = ((i + 1 + j : Nat) : Int) := by omega
        have hx : x = .int ((i + 1 + j : Nat) : Int) := by
          rw [y.2]
          exact congrArg V.int ex
        subst hx
        exact ⟨et_is (et_test (ev_op (ev_op (ev_fld (ev_var rfl) d2.ob T.clQ T.nQ_uppers (queF_uppers _ _ _ _ _)) (ev_var rfl) (rv_ixL d2.ups (d2.ups_at (by omega)))) (ev_var rfl) (rv_eq (scal_optV _ _)))) beq_optV, fun _ => ev_var rfl⟩)
    rw [en, lows_given] at hl
    exact s_retL hl fun p H2 hp e2 hp2 => k p H2 (fresh_back e1 hp) (e1.trans e2) hp2
def spQWanted (K : PySem.W.Frag) (CQ CS CA : Addr) : Sp := spV fun vs H v => ∃ (a : Addr) (rows : List QR) (w : Nat), vs = [.ref a] ∧ QueOb K CQ CS CA H a rows w ∧ v = .int (w : Int)
theorem sc_Question_wanted : FnScope ["self"] ["self"] (defScope s_Question_wanted) := ⟨rfl, rfl, rfl, by decide +kernel, rfl, by decide +kernel, by decide +kernel⟩
theorem m_Question_wanted (T : Txt K mg CD CQ CS CA) : Mt P w K mg base CQ "wanted" 1 ["self"] (spQWanted K CQ CS CA) := by
  refine Mt.of T.m_Question_wanted sc_Question_wanted (fun _ _ _ _ _ _ us hl => match us, hl with | [_], _ => rfl) (fun vs H Q E h => ?_) (fun f cdv A outer s H vs Q E hr h => ?_)
  · obtain ⟨v, ⟨a, rows, w0, rfl, _⟩, _⟩ := h
    rfl
  · obtain ⟨v, ⟨a, rows, w0, rfl, ⟨dx, t, st, e, u, as, ss, d⟩, rfl⟩, k⟩ := h
    refine ⟨_, (pss_one (ps_ret (pe_fld (pv 0) rfl))), ?_⟩
    exact s_ret (ev_fld (ev_var rfl) d.ob T.clQ T.nQ_goal (queF_goal _ _ _ _ _)) k
def spQRows (K : PySem.W.Frag) (CQ CS CA : Addr) : Sp := spN fun vs H P => ∃ (a : Addr) (rows : List QR) (w : Nat) (dx g s e u : Addr) (as ss : List Addr), vs = [.ref a] ∧ QueAt K CQ CS CA H a rows w dx g s e u as ss ∧ P = fun p H2 => H2 p = some (.lst (refsV as))
theorem sc_Question_rows : FnScope ["self"] ["self"] (defScope s_Question_rows) := ⟨rfl, rfl, rfl, by decide +kernel, rfl, by decide +kernel, by decide +kernel⟩
theorem m_Question_rows (T : Txt K mg CD CQ CS CA) : Mt P w K mg base CQ "rows" 1 ["self"] (spQRows K CQ CS CA) := by
  refine Mt.of T.m_Question_rows sc_Question_rows (fun _ _ _ _ _ _ us hl => match us, hl with | [_], _ => rfl) (fun vs H Q E h => ?_) (fun f cdv A outer s H vs Q E hr h => ?_)
  · obtain ⟨v, ⟨a, rows, w0, dx, t, st, e, u, as, ss, rfl, _⟩, _⟩ := h
    rfl
  · obtain ⟨v, ⟨a, rows, w0, dx, t, st, e, u, as, ss, rfl, d, rfl⟩, k⟩ := h
    refine ⟨_, (pss_one (ps_ret (pe_callTy call_list_of (by rfl) T.z_list (by decide +kernel) (pa_cons (pe_fld (pv 0) rfl) pa_nil)))), ?_⟩
    exact ev_fld (ev_var rfl) d.ob T.clQ T.nQ_given_rows (queF_rows _ _ _ _ _) H (Ex.refl H) _ fun H1 e1 => ⟨t, refsV as, rfl, .inr (ex_t e1 d.given), fun l hl => k l _ (fresh_back e1 hl) (e1.trans (Ex.new hl)) upd_same⟩
end
end Bo
set_option Elab.async false
set_option linter.all false
set_option maxRecDepth 100000
set_option maxHeartbeats 4000000
namespace Bo
open PySem PySem.Spec PyProof.Rows L2 Evl BK BL
section
variable {P : Program} {w : World} {K : PySem.W.Frag} {mg : Str → Option Value} {base : Heap} {CD CQ CS CA : Addr}
/-! ### dicts that stand for sets -/
section
variable {α κ : Type} [DecidableEq α] [DecidableEq κ]
def dkv (f : α → κ) (ks : List α) : List (κ × V) := ks.map fun n => (f n, V.bl true)
def addK (ks : List α) (n : α) : List α := if n ∈ ks then ks else ks ++ [n]
theorem mem_addK {ks : List α} {n m : α} : m ∈ addK ks n ↔ m ∈ ks ∨ m = n := by
  unfold addK
  by_cases h : n ∈ ks
  · rw [if_pos h]
    exact ⟨.inl, fun z => z.elim id fun e => e ▸ h⟩
  · rw [if_neg h, List.mem_append, List.mem_singleton]
theorem nodup_addK {ks : List α} {n : α} (h : ks.Nodup) : (addK ks n).Nodup := by
  unfold addK
  by_cases hn : n ∈ ks
  · rw [if_pos hn]
    exact h
  · rw [if_neg hn, List.nodup_append]
    exact ⟨h, by simp, fun x hx y hy => by
      rw [List.mem_singleton.mp hy]
      intro e
      exact hn (e ▸ hx)⟩
theorem dkv_any {f : α → κ} (hf : ∀ a b, f a = f b → a = b) {ks : List α} {n : α} : ((dkv f ks).any fun kv => decide (kv.1 = f n)) = decide (n ∈ ks) := by
  unfold dkv
  rw [List.any_map]
  by_cases h : n ∈ ks
  · rw [decide_eq_true h, List.any_eq_true]
    exact ⟨n, h, by simp⟩
  · rw [decide_eq_false h, List.any_eq_false]
    intro x hx
    show ¬ decide (f x = f n) = true
    intro q
    exact h (hf _ _ (of_decide_eq_true q) ▸ hx)
theorem dkv_put {f : α → κ} (hf : ∀ a b, f a = f b → a = b) {ks : List α} {n : α} : putK (dkv f ks) (f n) (.bl true) = dkv f (addK ks n) := by
  unfold putK
  rw [dkv_any hf]
  unfold addK
  by_cases h : n ∈ ks
  · rw [decide_eq_true h, if_pos rfl, if_pos h]
    unfold dkv
    rw [List.map_map]
    refine List.map_congr_left fun x _ => ?_
    show (if f x = f n then (f x, V.bl true) else (f x, V.bl true)) = _
    rw [ite_self]
  · rw [decide_eq_false h, if_neg (by decide), if_neg h]
    unfold dkv
    rw [List.map_append]
    rfl
theorem dkv_val {f : α → κ} (hf : ∀ a b, f a = f b → a = b) {ks : List α} {n : α} : (valV (dkv f ks) (f n)).isSome = decide (n ∈ ks) := by
  rw [← valV_any, dkv_any hf]
theorem dkv_len {f : α → κ} {ks : List α} : (dkv f ks).length = ks.length := List.length_map _
end
theorem nodup_bound : ∀ (N : Nat) (ks : List Nat), ks.Nodup → (∀ k ∈ ks, k < N) → ks.length ≤ N
  | 0, ks, _, h => by
    cases ks with
    | nil => exact Nat.le_refl _
    | cons k r => exact absurd (h k List.mem_cons_self) (Nat.not_lt_zero _)
  | N + 1, ks, hn, h => by
    have ih := nodup_bound N (ks.erase N) (hn.erase N) fun k hk => by
      have h1 := (hn.mem_erase_iff).mp hk
      have := h k h1.2
      have := h1.1
      omega
    have := List.length_erase (a := N) (l := ks)
    split at this <;> omega
abbrev kI (n : Nat) : Key := Sum.inl (n : Int)
theorem kI_inj : ∀ a b, kI a = kI b → a = b := fun a b h => by
  injection h with h
  exact Int.ofNat.inj h
def dSet (ks : List Nat) : List (Key × V) := dkv kI ks
theorem dSet_get {ks : List Nat} {i : Nat} {k : Key} {v : V} (h : (dSet ks)[i]? = some (k, v)) : ∃ n, ks[i]? = some n ∧ k = kI n := by
  unfold dSet dkv at h
  rw [List.getElem?_map] at h
  cases e : ks[i]? with
  | none => rw [e] at h; cases h
  | some n =>
    rw [e] at h
    have := Option.some.inj h
    exact ⟨n, rfl, (congrArg Prod.fst this).symm⟩
/-- a new dict that is a set of numbers: those of which P holds -/
def SetAt (H : Hp) (a : Addr) (N : Nat) (P : Nat → Prop) : Prop := ∃ ks, H a = some (.dK (dSet ks)) ∧ ks.Nodup ∧ ∀ k, k ∈ ks ↔ k < N ∧ P k
theorem SetAt.mono {H H' : Hp} {a : Addr} {N : Nat} {P : Nat → Prop} (e : Ex H H') (h : SetAt H a N P) : SetAt H' a N P := let ⟨ks, h1, h2, h3⟩ := h; ⟨ks, e _ _ h1, h2, h3⟩
theorem len_of_mem {ks : List Nat} {N : Nat} {P : Nat → Prop} (hn : ks.Nodup) (h : ∀ k, k ∈ ks ↔ k < N ∧ P k) : ks.length ≤ N := nodup_bound N ks hn fun k hk => ((h k).mp hk).1
section
variable {σ : L2.St} {H : Hp} {td ty tv ta tb : TE} {D : Ends} {tz : TS}
theorem s_dput {a : Addr} {kvs : List (Key × V)} {k : Key} {v : V} (hv : Ev tv σ H v) (ho : Ev td σ H (.ref a)) (hk : Ev ty σ H (kV k)) (hd : H a = some (.dK kvs)) (hl : kvs.length < 100000) (c : ∀ H1, Ex H H1 → D.nx σ (upd H1 a (.dK (putK kvs k v)))) : sDPut td ty tv D σ H :=
  hv H (Ex.refl H) _ fun H1 e1 => ho H1 e1 _ fun H2 e2 => hk H2 (e1.trans e2) _ fun H3 e3 => ⟨a, _, rfl, .inl ⟨kvs, k, ((e1.trans e2).trans e3) a _ hd, rfl, sz_lt hl, rfl⟩, c H3 ((e1.trans e2).trans e3)⟩
theorem q_dput {a : Addr} {kvs : List (Key × V)} {k : Key} {v : V} (hv : Ev tv σ H v) (ho : Ev td σ H (.ref a)) (hk : Ev ty σ H (kV k)) (hd : H a = some (.dK kvs)) (hl : kvs.length < 100000) (c : ∀ H1, Ex H H1 → tz D σ (upd H1 a (.dK (putK kvs k v)))) : tSeq (sDPut td ty tv) tz D σ H :=
  s_dput (D := { D with nx := tz D }) hv ho hk hd hl c
theorem en_dnewK : EvN tDNewK σ H (fun p H2 => H2 p = some (.dK [])) := fun H1 e Q q p hp => q p _ hp (Ex.new hp) upd_same
theorem q_asgN {te : TE} {i : Nat} {P : Addr → Hp → Prop} (h : EvN te σ H P) (k : ∀ p H1, H p = none → Ex H H1 → P p H1 → tz D (σ.set i (some (.ref p))) H1) : tSeq (tAsg te (gName i)) tz D σ H := h H (Ex.refl H) _ fun p H1 hp e hP => k p H1 hp e hP
theorem s_asgN {te : TE} {i : Nat} {P : Addr → Hp → Prop} (h : EvN te σ H P) (k : ∀ p H1, H p = none → Ex H H1 → P p H1 → D.nx (σ.set i (some (.ref p))) H1) : tAsg te (gName i) D σ H := h H (Ex.refl H) _ fun p H1 hp e hP => k p H1 hp e hP
/-- list(range(i, j)) -/
theorem el_listRg2 {i j : Nat} (h1 : Ev ta σ H (.int (i : Int))) (h2 : Ev tb σ H (.int (j : Int))) (hy : i ≤ 100000) (hz : j ≤ 100000) : EvL (tLstRg (tRg2 ta tb)) σ H (natV ((List.range (j - i)).map (i + ·))) := fun H1 e Q q =>
  h1 H1 e _ fun H2 e2 => h2 H2 (e.trans e2) _ fun H3 e3 => ⟨(i : Int), (j : Int), rfl, rfl, RgOk.of_le (by omega) (by omega) (by omega) (by omega), fun p hp => by
    have hr : rgV (i : Int) (j : Int) = natV ((List.range (j - i)).map (i + ·)) := by
      unfold rgV natV
      rw [List.map_map, show ((j : Int) - (i : Int)).toNat = j - i by omega]
      refine List.map_congr_left fun x _ => ?_
      show V.int ((i : Int) + (x : Int)) = V.int ((i + x : Nat) : Int)
      rw [Int.natCast_add]
    rw [hr]
    exact q p _ (fresh_back (e2.trans e3) hp) ((e2.trans e3).trans (Ex.new hp)) upd_same⟩
theorem q_ifM {t : TT} {tu tw : TS} {b : Bool} (M : L2.St → Hp → Prop) (h : EvT t σ H b) (h1 : b = true → ∀ H1, Ex H H1 → ∀ D' : Ends, (∀ σ' H', M σ' H' → D'.nx σ' H') → tu D' σ H1) (h2 : b = false → ∀ H1, Ex H H1 → ∀ D' : Ends, (∀ σ' H', M σ' H' → D'.nx σ' H') → tw D' σ H1)
    (k : ∀ σ' H', M σ' H' → tz D σ' H') : tSeq (tIfS t tu tw) tz D σ H := q_if h (fun hb H1 e => h1 hb H1 e _ k) (fun hb H1 e => h2 hb H1 e _ k)
end
theorem anc_trans {ds : List Nat} {i p q : Nat} (hq : q < ds.length) (h1 : BM.Anc ds i p) (h2 : BM.Anc ds p q) : BM.Anc ds i q := by
  have hp : p < ds.length := Nat.lt_trans h2.1 hq
  obtain ⟨a1, a2⟩ := (BM.anc_iff hp).mp h1
  obtain ⟨b1, b2⟩ := (BM.anc_iff hq).mp h2
  refine (BM.anc_iff hq).mpr ⟨by omega, fun m h3 h4 => ?_⟩
  by_cases h5 : m ≤ p
  · exact a2 m h3 h5
  · have := b2 m (by omega) h4
    have := a2 p a1 (Nat.le_refl _)
    omega
/-! ### with_beneath -/
def spBen (K : PySem.W.Frag) (CD : Addr) : Sp := spN fun vs H P => ∃ (a b : Addr) (rows : List DR) (ps : List Nat) (w : Bool), vs = [.ref a, .ref b, .str (wayS w)] ∧ DocOb K CD H a rows ∧ OkD rows ∧ SqL K H b (natV ps) ∧ (∀ p ∈ ps, p < rows.length) ∧
  P = fun d H2 => SetAt H2 d rows.length fun q => ∃ p ∈ ps, BM.Rel (BM.dds rows) w q p
structure BenW (ds ps : List Nat) (w : Bool) (i : Nat) (ks : List Nat) : Prop where
  nd : ks.Nodup
  lt : ∀ k ∈ ks, k < ds.length
  mem : ∀ k, k < ds.length → (k ∈ ks ↔ ∃ p ∈ ps.take i, BM.Rel ds w k p)
/-- within the climb -/
structure BenI (ds ps : List Nat) (w : Bool) (i p : Nat) (o : Option Nat) (ks : List Nat) : Prop where
  nd : ks.Nodup
  lt : ∀ k ∈ ks, k < ds.length
  olt : ∀ u, o = some u → u < ds.length
  sound : ∀ k ∈ ks, ∃ q ∈ ps.take (i + 1), BM.Rel ds w k q
  osound : ∀ u, o = some u → ∃ q ∈ ps.take (i + 1), BM.Rel ds w u q
  base : ∀ k, k < ds.length → (∃ q ∈ ps.take i, BM.Rel ds w k q) → k ∈ ks
  first : ∀ u, BM.upAt ds p = some u → u ∈ ks ∨ o = some u
  closed : w = true → ∀ k ∈ ks, ∀ u, BM.upAt ds k = some u → u ∈ ks ∨ o = some u
theorem wayS_dec (w : Bool) : decide (V.str (wayS w) = V.str "/") = !w := by cases w <;> decide +kernel
theorem take_succ_mem {ps : List Nat} {i p q : Nat} (h : ps[i]? = some p) : q ∈ ps.take (i + 1) ↔ q ∈ ps.take i ∨ q = p := by
  rw [List.take_succ, h, List.mem_append]
  simp
theorem BenI.start {ds ps : List Nat} {w : Bool} {i p : Nat} {ks : List Nat} (G : BM.Good ds) (hp : ps[i]? = some p) (hpl : p < ds.length) (h : BenW ds ps w i ks) : BenI ds ps w i p (BM.upAt ds p) ks := by
  refine ⟨h.nd, h.lt, fun u e => Nat.lt_trans (G.up_lt hpl e) hpl, fun k hk => ?_, fun u e => ⟨p, (take_succ_mem hp).mpr (.inr rfl), ?_⟩, fun k hk q => (h.mem k hk).mpr q, fun u e => .inr e, fun hw k hk u e => .inl ?_⟩
  · obtain ⟨q, hq, r⟩ := (h.mem k (h.lt k hk)).mp hk
    exact ⟨q, (take_succ_mem hp).mpr (.inl hq), r⟩
  · cases w with
    | true => exact BM.rel_any.mpr (G.up_anc hpl e)
    | false => exact BM.rel_str.mpr e
  · subst hw
    have hkl := h.lt k hk
    obtain ⟨q, hq, r⟩ := (h.mem k hkl).mp hk
    have hul : u < ds.length := Nat.lt_trans (G.up_lt hkl e) hkl
    refine (h.mem u hul).mpr ⟨q, hq, BM.rel_any.mpr ?_⟩
    by_cases hql : q < ds.length
    · exact anc_trans hql (G.up_anc hkl e) (BM.rel_any.mp r)
    · exfalso
      have r := BM.rel_any.mp r
      have := BM.end_lt hkl
      have := r.2
      omega
theorem BenI.next {ds ps : List Nat} {w : Bool} {i p u : Nat} {ks : List Nat} (G : BM.Good ds) (h : BenI ds ps w i p (some u) ks) (hps : ∀ q ∈ ps, q < ds.length) : BenI ds ps w i p (if w = true then BM.upAt ds u else none) (addK ks u) := by
  have hul := h.olt u rfl
  refine ⟨nodup_addK h.nd, fun k hk => ?_, fun v e => ?_, fun k hk => ?_, fun v e => ?_, fun k hk q => mem_addK.mpr (.inl (h.base k hk q)), fun v e => ?_, fun hw k hk v e => ?_⟩
  · rcases mem_addK.mp hk with z | z
    · exact h.lt k z
    · rw [z]
      exact hul
  · cases w with
    | true =>
      rw [if_pos rfl] at e
      exact Nat.lt_trans (G.up_lt hul e) hul
    | false => cases e
  · rcases mem_addK.mp hk with z | z
    · exact h.sound k z
    · rw [z]
      exact h.osound u rfl
  · cases w with
    | false => cases e
    | true =>
      rw [if_pos rfl] at e
      obtain ⟨q, hq, r⟩ := h.osound u rfl
      exact ⟨q, hq, BM.rel_any.mpr (anc_trans (hps q (List.mem_of_mem_take hq)) (G.up_anc hul e) (BM.rel_any.mp r))⟩
  · rcases h.first v e with z | z
    · exact .inl (mem_addK.mpr (.inl z))
    · cases z
      exact .inl (mem_addK.mpr (.inr rfl))
  · subst hw
    rcases mem_addK.mp hk with z | z
    · rcases h.closed rfl k z v e with y | y
      · exact .inl (mem_addK.mpr (.inl y))
      · cases y
        exact .inl (mem_addK.mpr (.inr rfl))
    · rw [z] at e
      exact .inr (by rw [if_pos rfl]; exact e)
theorem BenI.stop {ds ps : List Nat} {w : Bool} {i p : Nat} {o : Option Nat} {ks : List Nat} (G : BM.Good ds) (hp : ps[i]? = some p) (hpl : p < ds.length) (h : BenI ds ps w i p o ks) (ho : ∀ u, o = some u → u ∈ ks) : BenW ds ps w (i + 1) ks := by
  refine ⟨h.nd, h.lt, fun k hk => ⟨h.sound k, fun ⟨q, hq, r⟩ => ?_⟩⟩
  rcases (take_succ_mem hp).mp hq with z | z
  · exact h.base k hk ⟨q, z, r⟩
  · subst z
    have h1 : ∀ u, BM.upAt ds q = some u → u ∈ ks := fun u e => (h.first u e).elim id (ho u)
    cases w with
    | false => exact h1 k (BM.rel_str.mp r)
    | true =>
      have h2 : ∀ k ∈ ks, ∀ u, BM.upAt ds k = some u → u ∈ ks := fun k hk u e => (h.closed rfl k hk u e).elim id (ho u)
      have h3 : ∀ (n m : Nat), m ≤ n → m < ds.length → (∀ u, BM.upAt ds m = some u → u ∈ ks) → ∀ k, BM.Anc ds k m → k ∈ ks := by
        intro n
        induction n with
        | zero =>
          intro m hm _ _ k hk
          have := hk.1
          omega
        | succ n ih =>
          intro m hm hml hu k hk
          obtain ⟨u, e, y⟩ := (G.anc_up hml).mp hk
          have hlt := G.up_lt hml e
          rcases y with y | y
          · rw [y]
            exact hu u e
          · exact ih u (by omega) (by omega) (h2 u (hu u e)) k y
      exact h3 q q (Nat.le_refl _) hpl h1 k (BM.rel_any.mp r)
theorem sc_with_beneath : FnScope ["document", "parts", "way", "found", "part", "upper"] ["document", "parts", "way"] (defScope s_with_beneath) := ⟨rfl, rfl, rfl, by decide +kernel, rfl, by decide +kernel, by decide +kernel⟩
theorem fn_with_beneath (T : Txt K mg CD CQ CS CA) : Fn P w K mg base "with_beneath" 5 ["document", "parts", "way"] (spBen K CD) := by
  refine Fn.of T.g_with_beneath sc_with_beneath (fun _ _ _ _ _ _ us hl => match us, hl with | [_, _, _], _ => rfl) (fun vs H Q E h => ?_) (fun f cdv A outer s H vs Q E hr h => ?_)
  · obtain ⟨P, ⟨a, b, rows, ps, w0, rfl, _⟩, _⟩ := h
    rfl
  · obtain ⟨P', ⟨a, b, rows, ps, w0, rfl, d, O, hps, hlt, rfl⟩, k⟩ := h
    refine ⟨_, (pss_cons (ps_set (i := 3) sc_with_beneath.nd rfl (Or.inl rfl) pe_dnewK)
  (pss_cons (ps_for PassesOwn.never rfl (pi_list (pv 1)) (pg_name (i := 4) sc_with_beneath.nd rfl (Or.inl rfl)) (pss_cons (ps_set (i := 5) sc_with_beneath.nd rfl (Or.inl rfl) (Mt.pe T.clD (by exact m_Document_upper_of T) (hr.mono (by decide)) (pv 0) (pa_cons (pv 4) pa_nil)))
  (pss_one (ps_while PassesOwn.never (PW.pt (pw_and (pt_cmp (pc_notN (pv 5))) (pw_and1 (pt_cmp (pc_dnotin (hu_of hr) (pv 5) (pv 3)))))) (pss_cons (ps_dput (hu_of hr) (pv 3) (pv 5) pe_bl rfl)
  (pss_cons (ps_set (i := 5) sc_with_beneath.nd rfl (Or.inl rfl) (Mt.pe T.clD (by exact m_Document_upper_of T) (hr.mono (by decide)) (pv 0) (pa_cons (pv 5) pa_nil)))
  (pss_one (ps_if (pt_cmpR op_eq (pv 2) pe_str (nomark _)) (pss_one (ps_set (i := 5) sc_with_beneath.nd rfl (Or.inl rfl) pe_non)) pss_nil))))))))
  (pss_one (ps_ret (pv 3))))), ?_⟩
    have hN := O.many
    have hdl : (BM.dds rows).length = rows.length := BM.dds_len rows
    refine q_asgN en_dnewK fun D H1 hD e1 hDd => ?_
    refine q_forI (ei_list (K := K) (p := b) (xs := natV ps) (ev_var rfl) (ex_l e1 hps)) walk_list (fun i σ' H' => ∃ (v4 v5 : Option V) (ks : List Nat), σ' = [some (.ref a), some (.ref b), some (.str (wayS w0)), some (.ref D), v4, v5] ∧ Ex H H' ∧ H' D = some (.dK (dSet ks)) ∧ BenW (BM.dds rows) ps w0 i ks)
      (fun H2 e2 => ⟨none, none, [], rfl, e1.trans e2, e2 _ _ hDd, List.nodup_nil, fun k hk => by simp at hk, fun k hk => by simp⟩) (fun i σ' H' _ ⟨_, _, _, _, e, _⟩ => ex_l e hps) ?_ ?_
    · rintro i y σ' H' H'' hi ⟨v4, v5, ks, rfl, e, hk, B⟩ ⟨rfl, hy⟩
      obtain ⟨p, hp, rfl⟩ := natV_back hy
      have hpl := hlt p (List.mem_of_getElem? hp)
      refine q_asg (ev_methV (ev_var rfl) (e _ _ d.choose_spec.choose_spec.choose_spec.choose_spec.choose_spec.ob) (docF_no _ _ _ (by decide +kernel) (by decide +kernel) (by decide +kernel)) (ea_cons (ev_var rfl) ea_nil) fun H2 e2 => ⟨a, rows, p, rfl, d.mono (e.trans e2), hpl, rfl⟩) fun H2 e2 => ?_
      refine s_while (fun m σ2 H3 => ∃ (o : Option Nat) (ks : List Nat), σ2 = [some (.ref a), some (.ref b), some (.str (wayS w0)), some (.ref D), some (.int (p : Int)), some (optV o)] ∧ Ex H H3 ∧ H3 D = some (.dK (dSet ks)) ∧ BenI (BM.dds rows) ps w0 i p o ks ∧ (match o with | none => m = 0 | some u => m = u + 1))
        (match BM.upAt (BM.dds rows) p with | none => 0 | some u => u + 1) ⟨BM.upAt (BM.dds rows) p, ks, rfl, e.trans e2, e2 _ _ hk, BenI.start O.good hp (by rw [hdl]; exact hpl) B, by cases BM.upAt (BM.dds rows) p <;> rfl⟩ ?_
      rintro m σ2 H3 ⟨o, ks2, rfl, e3, hk3, B3, hm⟩
      refine ⟨(match o with | none => false | some u => !decide (u ∈ ks2)), ?_, ?_, ?_⟩
      · cases o with
        | none => exact et_is (et_and (a := false) (b := false) (et_is (et_B (ev_notN (ev_var rfl))) rfl) fun q => by cases q) rfl
        | some u => exact et_is (et_and (a := true) (b := !decide (u ∈ ks2)) (et_is (et_B (ev_notN (ev_var rfl))) rfl) fun _ => et_is (et_B (ev_dninK (k := kI u) (ev_var rfl) (ev_var rfl) (.inl hk3))) (by rw [show valV (dSet ks2) (kI u) = valV (dkv kI ks2) (kI u) from rfl, dkv_val kI_inj])) rfl
      · intro hb H4 e4
        cases o with
        | none => cases hb
        | some u =>
          have hm : m = u + 1 := hm
          subst hm
          have hul := B3.olt u rfl
          have hul' : u < rows.length := by rw [← hdl]; exact hul
          have hkl := nodup_bound _ _ B3.nd B3.lt
          refine ⟨fun σ3 H5 => ∃ (o : Option Nat) (ks : List Nat), σ3 = [some (.ref a), some (.ref b), some (.str (wayS w0)), some (.ref D), some (.int (p : Int)), some (optV o)] ∧ Ex H H5 ∧ H5 D = some (.dK (dSet ks)) ∧ BenI (BM.dds rows) ps w0 i p o ks ∧ (∀ u', o = some u' → u' < u), ?_, ?_⟩
          · rintro σ3 H5 ⟨o, ks, rfl, h1, h2, h3, h4⟩
            refine ⟨(match o with | none => 0 | some u => u + 1), ?_, o, ks, rfl, h1, h2, h3, by cases o <;> rfl⟩
            cases o with
            | none => exact Nat.succ_pos _
            | some u' => exact Nat.succ_lt_succ (h4 u' rfl)
          · refine q_dput (k := kI u) ev_c (ev_var rfl) (ev_var rfl) (e4 _ _ hk3) (by rw [show (dSet ks2).length = ks2.length from dkv_len]; omega) fun H5 e5 => ?_
            rw [show putK (dSet ks2) (kI u) (.bl true) = dSet (addK ks2 u) from dkv_put kI_inj]
            have e6 : Ex H (upd H5 D (.dK (dSet (addK ks2 u)))) := Ex.mut ((e3.trans e4).trans e5) hD
            refine q_asg (ev_methV (ev_var rfl) (e6 _ _ d.choose_spec.choose_spec.choose_spec.choose_spec.choose_spec.ob) (docF_no _ _ _ (by decide +kernel) (by decide +kernel) (by decide +kernel)) (ea_cons (ev_var rfl) ea_nil) fun H2 e2 => ⟨a, rows, u, rfl, d.mono (e6.trans e2), hul', rfl⟩) fun H6 e7 => ?_
            have B5 := B3.next O.good (fun q hq => by rw [hdl]; exact hlt q hq)
            refine s_ifAsg (b := !w0) (v := optV (if w0 = true then BM.upAt (BM.dds rows) u else none)) (et_is (et_test (ev_op (ev_var rfl) ev_c (rv_eq rfl))) (wayS_dec w0)) (fun q => ?_) (fun q => ?_) fun H7 e8 => ?_
            · cases w0 with
              | true => cases q
              | false => exact ev_c
            · cases w0 with
              | true => rfl
              | false => cases q
            · exact ⟨_, _, rfl, (e6.trans e7).trans e8, e8 _ _ (e7 _ _ upd_same), B5, fun u' q => by
                cases w0 with
                | false => cases q
                | true =>
                  rw [if_pos rfl] at q
                  exact O.good.up_lt hul q⟩
      · intro hb H4 e4
        refine ⟨some (.int (p : Int)), some (optV o), ks2, rfl, e3.trans e4, e4 _ _ hk3, B3.stop O.good hp (by rw [hdl]; exact hpl) fun u q => ?_⟩
        subst q
        simpa using hb
    · rintro σ' H' ⟨v4, v5, ks, rfl, e, hk, B⟩
      refine s_ret (ev_var rfl) fun H2 e2 => k D H2 hD (e.trans e2) ⟨ks, e2 _ _ hk, B.nd, fun q => ⟨fun hq => ?_, fun ⟨h1, h2⟩ => ?_⟩⟩
      · have := B.lt q hq
        have h3 := (B.mem q this).mp hq
        rw [natV_len, List.take_length] at h3
        exact ⟨by rw [← hdl]; exact this, h3⟩
      · refine (B.mem q (by rw [hdl]; exact h1)).mpr ?_
        rw [natV_len, List.take_length]
        exact h2
/-! ### with_above -/
def spAbove (K : PySem.W.Frag) (CD : Addr) : Sp := spN fun vs H P => ∃ (a b : Addr) (rows : List DR) (ps : List Nat) (w : Bool), vs = [.ref a, .ref b, .str (wayS w)] ∧ DocOb K CD H a rows ∧ OkD rows ∧ SqL K H b (natV ps) ∧ (∀ p ∈ ps, p < rows.length) ∧
  P = fun d H2 => SetAt H2 d rows.length fun q => ∃ p ∈ ps, BM.Rel (BM.dds rows) w p q
structure AbW (ds ps : List Nat) (w : Bool) (i : Nat) (ks : List Nat) : Prop where
  nd : ks.Nodup
  lt : ∀ k ∈ ks, k < ds.length
  mem : ∀ k, k < ds.length → (k ∈ ks ↔ ∃ p ∈ ps.take i, BM.Rel ds w p k)
structure AbI (ds : List Nat) (ks0 bs : List Nat) (j : Nat) (ks : List Nat) : Prop where
  nd : ks.Nodup
  lt : ∀ k ∈ ks, k < ds.length
  mem : ∀ k, k ∈ ks ↔ k ∈ ks0 ∨ k ∈ bs.take j
structure AbB (ds ps : List Nat) (w : Bool) (p : Nat) (ks bs : List Nat) : Prop where
  lt : ∀ k ∈ bs, k < ds.length
  mem : ∀ k, k < ds.length → (k ∈ ks ∨ k ∈ bs ↔ k ∈ ks ∨ BM.Rel ds w p k)
  len : bs.length ≤ 1000
theorem AbB.none {ds ps : List Nat} {i p : Nat} {ks : List Nat} (h : AbW ds ps true i ks) (hp : p ∈ ks) : AbB ds ps true p ks [] := by
  refine ⟨fun k hk => by simp at hk, fun k hk => ⟨fun q => q.elim .inl fun z => by simp at z, fun q => .inl (q.elim id fun r => ?_)⟩, Nat.zero_le _⟩
  obtain ⟨q, hq, r2⟩ := (h.mem p (h.lt p hp)).mp hp
  exact (h.mem k hk).mpr ⟨q, hq, BM.rel_any.mpr (anc_trans hk (BM.rel_any.mp r2) (BM.rel_any.mp r))⟩
theorem AbB.all {ds ps : List Nat} {p : Nat} {ks : List Nat} (hp : p < ds.length) (hz : ds.length ≤ 1000) : AbB ds ps true p ks ((List.range (BM.endAt ds p + 1 - (p + 1))).map (p + 1 + ·)) := by
  have hb := BM.end_lt hp
  have hm : ∀ k, k ∈ (List.range (BM.endAt ds p + 1 - (p + 1))).map (p + 1 + ·) ↔ BM.Anc ds p k := fun k => by
    rw [List.mem_map]
    constructor
    · rintro ⟨x, hx, rfl⟩
      have := List.mem_range.mp hx
      exact ⟨by omega, by omega⟩
    · rintro ⟨h1, h2⟩
      exact ⟨k - (p + 1), List.mem_range.mpr (by omega), by omega⟩
  refine ⟨fun k hk => ?_, fun k hk => ?_, ?_⟩
  · have := ((hm k).mp hk).2
    omega
  · rw [hm k, BM.rel_any]
  · rw [List.length_map, List.length_range]
    omega
theorem AbB.low {ds ps : List Nat} {p : Nat} {ks : List Nat} (G : BM.Good ds) (hp : p < ds.length) (hz : ds.length ≤ 1000) : AbB ds ps false p ks (lowsOf ds p) := by
  refine ⟨fun k hk => ((mem_lows G).mp hk).1, fun k hk => ?_, Nat.le_trans (lows_len hp) hz⟩
  rw [mem_lows G, BM.rel_str]
  exact ⟨fun q => q.imp id And.right, fun q => q.imp id fun r => ⟨hk, r⟩⟩
theorem AbI.next {ds ks0 bs : List Nat} {j m : Nat} {ks : List Nat} (h : AbI ds ks0 bs j ks) (hm : bs[j]? = some m) (hl : m < ds.length) : AbI ds ks0 bs (j + 1) (addK ks m) := by
  refine ⟨nodup_addK h.nd, fun k hk => ?_, fun k => ?_⟩
  · rcases mem_addK.mp hk with z | z
    · exact h.lt k z
    · rw [z]
      exact hl
  · rw [mem_addK, h.mem k, take_succ_mem hm, or_assoc]
theorem sc_with_above : FnScope ["document", "parts", "way", "found", "part", "beneath", "lower"] ["document", "parts", "way"] (defScope s_with_above) := ⟨rfl, rfl, rfl, by decide +kernel, rfl, by decide +kernel, by decide +kernel⟩
theorem fn_with_above (T : Txt K mg CD CQ CS CA) : Fn P w K mg base "with_above" 5 ["document", "parts", "way"] (spAbove K CD) := by
  refine Fn.of T.g_with_above sc_with_above (fun _ _ _ _ _ _ us hl => match us, hl with | [_, _, _], _ => rfl) (fun vs H Q E h => ?_) (fun f cdv A outer s H vs Q E hr h => ?_)
  · obtain ⟨P, ⟨a, b, rows, ps, w0, rfl, _⟩, _⟩ := h
    rfl
  · obtain ⟨P', ⟨a, b, rows, ps, w0, rfl, d, O, hps, hlt, rfl⟩, k⟩ := h
    refine ⟨_, (pss_cons (ps_set (i := 3) sc_with_above.nd rfl (Or.inl rfl) pe_dnewK)
  (pss_cons (ps_for PassesOwn.never rfl (pi_list (pv 1)) (pg_name (i := 4) sc_with_above.nd rfl (Or.inl rfl)) (pss_cons (ps_set (i := 5) sc_with_above.nd rfl (Or.inl rfl) (pe_lst pa_nil))
  (pss_cons (ps_if (pt_cmpR op_eq (pv 2) pe_str (nomark _)) (pss_one (ps_set (i := 5) sc_with_above.nd rfl (Or.inl rfl) (Mt.pe T.clD (by exact m_Document_lowers_of T) (hr.mono (by decide)) (pv 0) (pa_cons (pv 4) pa_nil)))) (pss_one (ps_if (pt_cmp (pc_dnotin (hu_of hr) (pv 4) (pv 3))) (pss_one (ps_set (i := 5) sc_with_above.nd rfl (Or.inl rfl) (pe_listRg rfl (by rfl) T.z_list (prg_2 (by rfl) T.z_range (pe_op op_add (pv 4) pe_int) (pe_op op_add (Mt.pe T.clD (by exact m_Document_end_of T) (hr.mono (by decide)) (pv 0) (pa_cons (pv 4) pa_nil)) pe_int))))) pss_nil)))
  (pss_one (ps_for PassesOwn.never rfl (pi_list (pv 5)) (pg_name (i := 6) sc_with_above.nd rfl (Or.inl rfl)) (pss_one (ps_dput (hu_of hr) (pv 3) (pv 6) pe_bl rfl)))))))
  (pss_one (ps_ret (pv 3))))), ?_⟩
    have hN := O.many
    have hdl : (BM.dds rows).length = rows.length := BM.dds_len rows
    refine q_asgN en_dnewK fun D H1 hD e1 hDd => ?_
    refine q_forI (ei_list (K := K) (p := b) (xs := natV ps) (ev_var rfl) (ex_l e1 hps)) walk_list (fun i σ' H' => ∃ (v4 v5 v6 : Option V) (ks : List Nat), σ' = [some (.ref a), some (.ref b), some (.str (wayS w0)), some (.ref D), v4, v5, v6] ∧ Ex H H' ∧ H' D = some (.dK (dSet ks)) ∧ AbW (BM.dds rows) ps w0 i ks)
      (fun H2 e2 => ⟨none, none, none, [], rfl, e1.trans e2, e2 _ _ hDd, List.nodup_nil, fun k hk => by simp at hk, fun k hk => by simp⟩) (fun i σ' H' _ ⟨_, _, _, _, _, e, _⟩ => ex_l e hps) ?_ ?_
    · rintro i y σ' H' H'' hi ⟨v4, v5, v6, ks, rfl, e, hk, B⟩ ⟨rfl, hy⟩
      obtain ⟨p, hp, rfl⟩ := natV_back hy
      have hpl := hlt p (List.mem_of_getElem? hp)
      have hpd : p < (BM.dds rows).length := by rw [hdl]; exact hpl
      refine q_asgL (el_lst ea_nil (Nat.zero_le _)) fun p0 H2 h0 e2 hp0 => ?_
      refine q_ifM (b := !w0) (fun σ2 H3 => ∃ pb bs, σ2 = [some (.ref a), some (.ref b), some (.str (wayS w0)), some (.ref D), some (.int (p : Int)), some (.ref pb), v6] ∧ Ex H H3 ∧ H3 D = some (.dK (dSet ks)) ∧ H3 pb = some (.lst (natV bs)) ∧ pb ≠ D ∧ AbB (BM.dds rows) ps w0 p ks bs)
        (et_is (et_test (ev_op (ev_var rfl) ev_c (rv_eq rfl))) (wayS_dec w0)) (fun q H3 e3 D' k' => ?_) (fun q H3 e3 D' k' => ?_) ?_
      · have hw : w0 = false := by
          cases w0 with
          | false => rfl
          | true => cases q
        subst hw
        have e03 := (e.trans e2).trans e3
        refine s_asgN (P := fun p1 H4 => H4 p1 = some (.lst (natV (lowsOf (BM.dds rows) p)))) (en_meth (ev_var rfl) (e03 _ _ d.choose_spec.choose_spec.choose_spec.choose_spec.choose_spec.ob) (docF_no _ _ _ (by decide +kernel) (by decide +kernel) (by decide +kernel)) (ea_cons (ev_var rfl) ea_nil) fun H2 e2 => ⟨a, rows, p, rfl, d.mono (e03.trans e2), by omega, hpl, rfl⟩) fun p1 H4 h4 e4 hp4 => k' _ _ ⟨p1, _, rfl, e03.trans e4, e4 _ _ (e3 _ _ (e2 _ _ hk)), hp4, fun z => ?_, AbB.low O.good hpd (by rw [hdl]; omega)⟩
        rw [z, e3 _ _ (e2 _ _ hk)] at h4
        cases h4
      · have hw : w0 = true := by
          cases w0 with
          | true => rfl
          | false => cases q
        subst hw
        have e03 := (e.trans e2).trans e3
        have hk3 := e3 _ _ (e2 _ _ hk)
        refine s_if (b := !decide (p ∈ ks)) (et_is (et_B (ev_dninK (k := kI p) (ev_var rfl) (ev_var rfl) (.inl hk3))) (by rw [show valV (dSet ks) (kI p) = valV (dkv kI ks) (kI p) from rfl, dkv_val kI_inj])) (fun q H4 e4 => ?_) (fun q H4 e4 => ?_)
        · refine s_asgL (el_listRg2 (i := p + 1) (j := BM.endAt (BM.dds rows) p + 1) (ev_op (ev_var rfl) ev_c rv_I0) (ev_op (ev_methV (ev_var rfl) ((e03.trans e4) _ _ d.choose_spec.choose_spec.choose_spec.choose_spec.choose_spec.ob) (docF_no _ _ _ (by decide +kernel) (by decide +kernel) (by decide +kernel)) (ea_cons (ev_var rfl) ea_nil) fun H2 e2 => ⟨a, rows, p, rfl, d.mono ((e03.trans e4).trans e2), hpl, rfl⟩) ev_c rv_I0) (by omega) (by have := BM.end_lt hpd; omega)) fun p1 H5 h5 e5 hp5 => k' _ _ ⟨p1, _, rfl, (e03.trans e4).trans e5, e5 _ _ (e4 _ _ hk3), hp5, fun z => ?_, AbB.all hpd (by rw [hdl]; omega)⟩
          rw [z, e4 _ _ hk3] at h5
          cases h5
        · refine k' _ _ ⟨p0, [], rfl, e03.trans e4, e4 _ _ hk3, e4 _ _ (e3 _ _ hp0), fun z => ?_, AbB.none B (by simpa using q)⟩
          rw [z, hk] at h0
          cases h0
      · rintro σ2 H3 ⟨pb, bs, rfl, e3, hk3, hb3, hne, BB⟩
        have hbl := BB.len
        refine s_forLn (a := pb) (xs := natV bs) (ev_var rfl) (sq_of hb3) (fun j σ3 H4 => ∃ (v6 : Option V) (ks2 : List Nat), σ3 = [some (.ref a), some (.ref b), some (.str (wayS w0)), some (.ref D), some (.int (p : Int)), some (.ref pb), v6] ∧ Ex H H4 ∧ H4 D = some (.dK (dSet ks2)) ∧ H4 pb = some (.lst (natV bs)) ∧ AbI (BM.dds rows) ks bs j ks2)
          (fun H4 e4 => ⟨v6, ks, rfl, e3.trans e4, e4 _ _ hk3, e4 _ _ hb3, B.nd, B.lt, fun k => by simp⟩) (fun j σ3 H4 _ ⟨_, _, _, _, _, h, _⟩ => sq_of h) ?_ ?_
        · rintro j x σ3 H4 hx ⟨v6, ks2, rfl, e4, hk4, hb4, I4⟩
          obtain ⟨m, hm, rfl⟩ := natV_back hx
          have hml := BB.lt m (List.mem_of_getElem? hm)
          have hkl := nodup_bound _ _ I4.nd I4.lt
          refine s_dput (k := kI m) ev_c (ev_var rfl) (ev_var rfl) hk4 (by rw [show (dSet ks2).length = ks2.length from dkv_len]; omega) fun H5 e5 => ?_
          rw [show putK (dSet ks2) (kI m) (.bl true) = dSet (addK ks2 m) from dkv_put kI_inj]
          exact ⟨some (.int (m : Int)), addK ks2 m, rfl, Ex.mut (e4.trans e5) hD, upd_same, by rw [upd_ne hne]; exact e5 _ _ hb4, I4.next hm hml⟩
        · rintro σ3 H4 ⟨v6, ks2, rfl, e4, hk4, hb4, I4⟩
          refine ⟨some (.int (p : Int)), some (.ref pb), v6, ks2, rfl, e4, hk4, I4.nd, I4.lt, fun k hk => ?_⟩
          rw [I4.mem k, natV_len, List.take_length, BB.mem k hk, B.mem k hk]
          constructor
          · rintro (⟨q, hq, r⟩ | r)
            · exact ⟨q, (take_succ_mem hp).mpr (.inl hq), r⟩
            · exact ⟨p, (take_succ_mem hp).mpr (.inr rfl), r⟩
          · rintro ⟨q, hq, r⟩
            rcases (take_succ_mem hp).mp hq with z | z
            · exact .inl ⟨q, z, r⟩
            · exact .inr (z ▸ r)
    · rintro σ' H' ⟨v4, v5, v6, ks, rfl, e, hk, B⟩
      refine s_ret (ev_var rfl) fun H2 e2 => k D H2 hD (e.trans e2) ⟨ks, e2 _ _ hk, B.nd, fun q => ⟨fun hq => ?_, fun ⟨h1, h2⟩ => ?_⟩⟩
      · have := B.lt q hq
        have h3 := (B.mem q this).mp hq
        rw [natV_len, List.take_length] at h3
        exact ⟨by rw [← hdl]; exact this, h3⟩
      · refine (B.mem q (by rw [hdl]; exact h1)).mpr ?_
        rw [natV_len, List.take_length]
        exact h2
end
end Bo
set_option Elab.async false
set_option linter.all false
set_option maxRecDepth 100000
set_option maxHeartbeats 4000000
namespace Bo
open PySem PySem.Spec PyProof.Rows L2 Evl BK BL
section
variable {P : Program} {w : World} {K : PySem.W.Frag} {mg : Str → Option Value} {base : Heap} {CD CQ CS CA : Addr}
/-! ### something of which P holds, nothing changed -/
def EvP (te : TE) (σ : L2.St) (H : Hp) (P : V → Hp → Prop) : Prop := ∀ H1, Ex H H1 → ∀ Q : VK, (∀ v H2, Ex H1 H2 → P v H2 → Q v H2) → te σ H1 Q
def spP (R : List V → Hp → (V → Hp → Prop) → Prop) : Sp := fun vs H Q _ => ∃ P, R vs H P ∧ ∀ v H2, Ex H H2 → P v H2 → Q v H2
section
variable {σ : L2.St} {H : Hp} {te td ty tv ta tb : TE} {D : Ends} {tz tu tw : TS} {tg : TA} {t : TT} {P : Addr → Hp → Prop}
theorem ep_var {i : Nat} {v : V} {P : V → Hp → Prop} (h : σ[i]? = some (some v)) (hP : ∀ H1, Ex H H1 → P v H1) : EvP (tVar i) σ H P := fun H1 e Q q => ⟨v, h, q v H1 (Ex.refl H1) (hP H1 e)⟩
theorem ep_call {R : List V → Hp → (V → Hp → Prop) → Prop} {P : V → Hp → Prop} {E : XK} {vs : List V} (h : EvA tg σ H vs) (hR : ∀ H1, Ex H H1 → R (vs ++ []) H1 P) : EvP (tCall (spP R) [] E tg) σ H P := fun H1 e Q q =>
  h H1 e _ fun H2 e2 => ⟨P, hR H2 (e.trans e2), fun v H3 e3 hP => q v H3 (e2.trans e3) hP⟩
theorem q_asgP {i : Nat} {P : V → Hp → Prop} (h : EvP te σ H P) (k : ∀ v H1, Ex H H1 → P v H1 → tz D (σ.set i (some v)) H1) : tSeq (tAsg te (gName i)) tz D σ H := h H (Ex.refl H) _ fun v H1 e hP => k v H1 e hP
theorem s_appN {l : Addr} {xs : List V} (hl : H l = some (.lst xs)) (ha : Ev ta σ H (.ref l)) (h : EvN te σ H P) (hz : xs.length < 100000) (k : ∀ p H1, H p = none → Ex H H1 → P p H1 → D.nx σ (upd H1 l (.lst (xs ++ [.ref p])))) :
    tDrop (tBM K "list" rAppend ta (tCons te tNil)) D σ H := ha H (Ex.refl H) _ fun H1 e1 =>
  ⟨Or.inl ⟨rfl, xs, sq_of (e1 l _ hl)⟩, h H1 e1 _ fun p H2 hp e2 h2 => ⟨l, xs, .ref p, rfl, rfl, e2 l _ (e1 l _ hl), sz_lt hz, k p H2 (fresh_back e1 hp) (e1.trans e2) h2⟩⟩
theorem s_setN {l : Addr} {xs : List V} {j : Nat} (hl : H l = some (.lst xs)) (h : EvN te σ H P) (ho : Ev ta σ H (.ref l)) (hi : Ev tb σ H (.int (j : Int))) (hj : j < xs.length) (k : ∀ p H1, H p = none → Ex H H1 → (∃ H0, P p H0 ∧ Ex H0 H1) → D.nx σ (upd H1 l (.lst (xs.set j (.ref p))))) :
    tAsg te (gSub ta tb rSetL) D σ H := h H (Ex.refl H) _ fun p H1 hp e1 hP => ho H1 e1 _ fun H2 e2 => hi H2 (e1.trans e2) _ fun H3 e3 =>
  ⟨l, xs, (j : Int), j, rfl, rfl, ((e1.trans e2).trans e3) l _ hl, ixN_nat hj, k p H3 hp ((e1.trans e2).trans e3) ⟨H1, hP, e2.trans e3⟩⟩
theorem s_retN (h : EvN te σ H P) (k : ∀ p H1, H p = none → Ex H H1 → P p H1 → D.rt (.ref p) H1) : tRet te D σ H := h H (Ex.refl H) _ fun p H1 hp e hP => k p H1 hp e hP
/-! the comprehensions over lists of numbers -/
theorem given_natV {ps : List Nat} (g : Nat → Bool) : given ps.length (fun i => g (ps.getD i 0)) (fun i => .int ((ps.getD i 0 : Nat) : Int)) = natV (ps.filter g) := by
  have h : ps = (List.range ps.length).map fun i => ps.getD i 0 := by
    refine List.ext_getElem? fun i => ?_
    rw [List.getElem?_map]
    by_cases hi : i < ps.length
    · rw [List.getElem?_range hi, List.getElem?_eq_getElem hi]
      show _ = some (ps.getD i 0)
      rw [List.getD_eq_getElem?_getD, List.getElem?_eq_getElem hi]
      rfl
    · rw [List.getElem?_eq_none (by omega), List.getElem?_eq_none (by rw [List.length_range]; omega)]
      rfl
  conv => rhs; rw [h]
  unfold given natV
  rw [List.filter_map, List.map_map]
  rfl
theorem given_all {n : Nat} (b : Nat → V) : given n (fun _ => true) b = (List.range n).map b := by
  unfold given
  rw [List.filter_eq_self.mpr fun _ _ => rfl]
theorem getD_of {ps : List Nat} {i p : Nat} (h : ps[i]? = some p) : ps.getD i 0 = p := by
  rw [List.getD_eq_getElem?_getD, h]
  rfl
theorem el_filt {a : Addr} {ps : List Nat} {tl : TE} {j : Nat} {ws : List Nat} (g : Nat → Bool) (h : Ev tl σ H (.ref a)) (hx : SqL K H a (natV ps)) (hz : ps.length ≤ 40000) (hw : ∀ x, wipe ((wipe σ ws).set j (some x)) ws = wipe σ ws) (hj : ∀ x, ((wipe σ ws).set j (some x))[j]? = some (some x))
    (ht : ∀ (p : Nat) H1, p ∈ ps → Ex H H1 → EvT t ((wipe σ ws).set j (some (.int (p : Int)))) H1 (g p)) : EvL (tLc (iList K tl) (gName j) t (tVar j) ws) σ H (natV (ps.filter g)) := by
  have := el_lcL (K := K) (t := t) (te := tVar j) (j := j) (vs := ws) (fun i => g (ps.getD i 0)) (fun i => .int ((ps.getD i 0 : Nat) : Int)) h hx (by rw [natV_len]; exact hz) hw (fun i x H1 e hi => by
    obtain ⟨p, hp, rfl⟩ := natV_back hi
    show EvT t _ H1 (g (ps.getD i 0))
    rw [getD_of hp]
    exact ht p H1 (List.mem_of_getElem? hp) e) (fun i x H1 e hi _ => by
    obtain ⟨p, hp, rfl⟩ := natV_back hi
    show Ev (tVar j) _ H1 (.int ((ps.getD i 0 : Nat) : Int))
    rw [getD_of hp]
    exact ev_var (hj _))
  rw [natV_len, given_natV] at this
  exact this
theorem el_bools {a : Addr} {ps : List Nat} {tl : TE} {j : Nat} {ws : List Nat} (g : Nat → Bool) (h : Ev tl σ H (.ref a)) (hx : SqL K H a (natV ps)) (hz : ps.length ≤ 40000) (hw : ∀ x, wipe ((wipe σ ws).set j (some x)) ws = wipe σ ws)
    (ht : ∀ (p : Nat) H1, p ∈ ps → Ex H H1 → Ev te ((wipe σ ws).set j (some (.int (p : Int)))) H1 (.bl (g p))) : EvL (tLc (iList K tl) (gName j) tYes te ws) σ H ((ps.map g).map V.bl) := by
  have := el_lcL (K := K) (t := tYes) (te := te) (j := j) (vs := ws) (fun i => true) (fun i => .bl (g (ps.getD i 0))) h hx (by rw [natV_len]; exact hz) hw (fun i x H1 e hi => fun H2 _ Q q => q H2 (Ex.refl H2)) (fun i x H1 e hi _ => by
    obtain ⟨p, hp, rfl⟩ := natV_back hi
    show Ev te _ H1 (.bl (g (ps.getD i 0)))
    rw [getD_of hp]
    exact ht p H1 (List.mem_of_getElem? hp) e)
  rw [natV_len, given_all] at this
  have e : (List.range ps.length).map (fun i => V.bl (g (ps.getD i 0))) = (ps.map g).map V.bl := by
    rw [List.map_map]
    refine List.ext_getElem? fun i => ?_
    rw [List.getElem?_map, List.getElem?_map]
    by_cases hi : i < ps.length
    · rw [List.getElem?_range hi, List.getElem?_eq_getElem hi]
      show some (V.bl (g (ps.getD i 0))) = some (V.bl (g ps[i]))
      rw [getD_of (List.getElem?_eq_getElem hi)]
    · rw [List.getElem?_eq_none (by rw [List.length_range]; omega), List.getElem?_eq_none (by omega)]
      rfl
  rw [e] at this
  exact this
/-! the question's steps -/
theorem ep_stepAt {a : Addr} {rows : List QR} {w i : Nat} {r : QR} {E : XK} (ho : Ev ta σ H (.ref a)) (q : QueOb K CQ CS CA H a rows w) (h : EvA tg σ H [.int (i : Int)]) (hr : rows[i]? = some r) :
    EvP (tMeth CQ "step_at" (spQStep K CQ CS CA) [] E ta tg) σ H (fun v H2 => ∃ p, v = .ref p ∧ StepOb CS CA H2 p r) := fun H1 e Q k => by
  obtain ⟨dx, g, s, en, u, as, ss, d⟩ := id q
  exact ho H1 e _ fun H2 e2 => ⟨a, dx, _, rfl, (e.trans e2) _ _ d.ob, queF_no _ _ _ _ _ (by decide +kernel) (by decide +kernel) (by decide +kernel) (by decide +kernel) (by decide +kernel), h H2 (e.trans e2) _ fun H3 e3 => ⟨a, rows, w, i, r, rfl, q.mono ((e.trans e2).trans e3), hr, fun p H4 e4 hS => k _ H4 ((e2.trans e3).trans e4) ⟨p, rfl, hS⟩⟩⟩
theorem ev_wayP {r : QR} {E E' : XK} (h : EvP te σ H (fun v H2 => ∃ p, v = .ref p ∧ StepOb CS CA H2 p r)) : Ev (tEither (tMeth CS "way" (spWay "/") [] E te tNil) (tMeth CA "way" (spWay "//") [] E' te tNil)) σ H (.str (wayS r.1)) := fun H1 e Q q => by
  obtain ⟨b, l, n⟩ := r
  cases b with
  | false =>
    refine .inl (h H1 e _ fun v H2 e2 ⟨p, hv, dx, hp⟩ => ⟨p, dx, stepF l, hv, hp, stepF_no _ (by decide +kernel), ?_⟩)
    subst hv
    exact ⟨_, ⟨p, rfl, rfl⟩, fun H3 e3 => q H3 (e2.trans e3)⟩
  | true =>
    refine .inr (h H1 e _ fun v H2 e2 ⟨p, hv, dx, hp⟩ => ⟨p, dx, stepF l, hv, hp, stepF_no _ (by decide +kernel), ?_⟩)
    subst hv
    exact ⟨_, ⟨p, rfl, rfl⟩, fun H3 e3 => q H3 (e2.trans e3)⟩
theorem ev_labelP (T : Txt K mg CD CQ CS CA) {r : QR} (h : EvP te σ H (fun v H2 => ∃ p, v = .ref p ∧ StepOb CS CA H2 p r)) : Ev (tFld K te "label") σ H (.str r.2.1) := fun H1 e Q q =>
  h H1 e _ fun v H2 e2 ⟨p, hv, dx, hp⟩ => by
    obtain ⟨b, l, n⟩ := r
    cases b with
    | false => exact ⟨p, CS, dx, stepF l, _, hv, hp, T.clS, T.nS_label, stepF_lab l, q H2 e2⟩
    | true => exact ⟨p, CA, dx, stepF l, _, hv, hp, T.clA, T.nA_label, stepF_lab l, q H2 e2⟩
end
/-! ### tables -/
abbrev DTof (rows : List DR) := BM.docT rows
abbrev QTof (qs : List QR) := BM.queT qs
noncomputable def Tb (rows : List DR) (qs : List QR) (i : Nat) : List Nat := BM.tbl rows.length (BM.Down (BM.docT rows) (BM.queT qs) i)
noncomputable def Fb (rows : List DR) (qs : List QR) (root : Nat → Prop) (i : Nat) : List Nat := BM.tbl rows.length (BM.Full (BM.docT rows) (BM.queT qs) root i)
def root0 (qs : List QR) (p : Nat) : Prop := (BM.queT qs).way 0 = true ∨ p = 0
structure TabL (H : Hp) (t : Addr) (n lo : Nat) (T : Nat → List Nat) (ts : List Addr) : Prop where
  ob : H t = some (.lst (refsV ts))
  len : ts.length = n
  at_ : ∀ (l : Nat) (a : Addr), lo ≤ l → ts[l]? = some a → H a = some (.lst (natV (T l)))
theorem TabL.mono {H H' : Hp} {t : Addr} {n lo : Nat} {T : Nat → List Nat} {ts : List Addr} (e : Ex H H') (h : TabL H t n lo T ts) : TabL H' t n lo T ts := ⟨e _ _ h.ob, h.len, fun l a h1 h2 => e _ _ (h.at_ l a h1 h2)⟩
theorem TabL.row {H : Hp} {t : Addr} {n lo : Nat} {T : Nat → List Nat} {ts : List Addr} (h : TabL H t n lo T ts) {l : Nat} (h1 : lo ≤ l) (h2 : l < n) : ∃ a, ts[l]? = some a ∧ H a = some (.lst (natV (T l))) := by
  have : l < ts.length := by rw [h.len]; exact h2
  exact ⟨ts[l], List.getElem?_eq_getElem this, h.at_ l _ h1 (List.getElem?_eq_getElem this)⟩
theorem SetAt.exb {x : Addr} {H H' : Hp} {a : Addr} {N : Nat} {P : Nat → Prop} (e : ExB x H H') (hn : a ≠ x) (h : SetAt H a N P) : SetAt H' a N P := let ⟨ks, h1, h2, h3⟩ := h; ⟨ks, e _ _ hn h1, h2, h3⟩
theorem Tb_lt {rows : List DR} {qs : List QR} {i p : Nat} (h : p ∈ Tb rows qs i) : p < rows.length := (BM.mem_tbl.mp h).1
theorem Fb_lt {rows : List DR} {qs : List QR} {root : Nat → Prop} {i p : Nat} (h : p ∈ Fb rows qs root i) : p < rows.length := (BM.mem_tbl.mp h).1
theorem Tb_len {rows : List DR} {qs : List QR} {i : Nat} : (Tb rows qs i).length ≤ rows.length := BM.tbl_len
theorem Fb_len {rows : List DR} {qs : List QR} {root : Nat → Prop} {i : Nat} : (Fb rows qs root i).length ≤ rows.length := BM.tbl_len
theorem que_way {qs : List QR} {i : Nat} {r : QR} (h : qs[i]? = some r) : (BM.queT qs).way i = r.1 := by
  show ((qs[i]?).map (·.1)).getD false = r.1
  rw [h]
  rfl
theorem que_lab {qs : List QR} {i : Nat} {r : QR} (h : qs[i]? = some r) : (BM.queT qs).lab i = some r.2.1 := by
  show (qs[i]?).map (·.2.1) = some r.2.1
  rw [h]
  rfl
theorem partsOf_tbl (rows : List DR) (z : Str) : partsOf rows z = BM.tbl rows.length fun p => (BM.docT rows).lab p = some z := by
  unfold partsOf BM.tbl
  refine List.filter_congr fun p _ => (BM.yes_eq ?_).symm
  exact decide_eq_true_iff
/-! ### down_row -/
def spDRow (K : PySem.W.Frag) (CD CQ CS CA : Addr) : Sp := spN fun vs H P => ∃ (a b t : Addr) (s w : Nat) (rows : List DR) (qs : List QR) (ts : List Addr), vs = [.ref a, .ref b, .ref t, .int (s : Int)] ∧ DocOb K CD H a rows ∧ OkD rows ∧ QueOb K CQ CS CA H b qs w ∧ OkQ qs ∧ s < qs.length ∧
  TabL H t qs.length (s + 1) (Tb rows qs) ts ∧ P = fun p H2 => H2 p = some (.lst (natV (Tb rows qs s)))
structure Needs (H : Hp) (nd : Addr) (N : Nat) (ls : List Nat) (R : Nat → Nat → Prop) (i : Nat) (ns : List Addr) : Prop where
  ob : H nd = some (.lst (refsV ns))
  len : ns.length = i
  at_ : ∀ (j : Nat) (a : Addr) (l : Nat), ns[j]? = some a → ls[j]? = some l → SetAt H a N (R l)
theorem Needs.mono {H H' : Hp} {nd : Addr} {N : Nat} {ls : List Nat} {R : Nat → Nat → Prop} {i : Nat} {ns : List Addr} (e : Ex H H') (h : Needs H nd N ls R i ns) : Needs H' nd N ls R i ns := ⟨e _ _ h.ob, h.len, fun j a l h1 h2 => (h.at_ j a l h1 h2).mono e⟩
theorem sc_down_row : FnScope ["document", "question", "table", "step", "needs", "lower", "parts", "part", "need"] ["document", "question", "table", "step"] (defScope s_down_row) := ⟨rfl, rfl, rfl, by decide +kernel, rfl, by decide +kernel, by decide +kernel⟩
theorem fn_down_row (T : Txt K mg CD CQ CS CA) : Fn P w K mg base "down_row" 6 ["document", "question", "table", "step"] (spDRow K CD CQ CS CA) := by
  refine Fn.of T.g_down_row sc_down_row (fun _ _ _ _ _ _ us hl => match us, hl with | [_, _, _, _], _ => rfl) (fun vs H Q E h => ?_) (fun f cdv A outer s H vs Q E hr h => ?_)
  · obtain ⟨P, ⟨a, b, t, s, w0, rows, qs, ts, rfl, _⟩, _⟩ := h
    rfl
  · obtain ⟨P', ⟨a, b, t, s, w0, rows, qs, ts, rfl, d, O, q, OQ, hs, ht, rfl⟩, k⟩ := h
    refine ⟨_, (pss_cons (ps_set (i := 4) sc_down_row.nd rfl (Or.inr rfl) (pe_lst pa_nil))
  (pss_cons (ps_for PassesOwn.never rfl (pi_list (Mt.pe T.clQ (by exact m_Question_lowers_of T) (hr.mono (by decide)) (pv 1) (pa_cons (pv 3) pa_nil))) (pg_name (i := 5) sc_down_row.nd rfl (Or.inl rfl)) (pss_one (ps_expr (pe_bm PySem.F.plainAttrs_list PySem.F.slot_list_append PySem.F.type_list_append mt_append (pv 4) (pa_cons (Fn.pe (by exact fn_with_beneath T) (hr.mono (by decide)) (by rfl) (pa_cons (pv 0) (pa_cons (pe_ix ix_list (pv 2) (pv 5) (fun _ _ => rfl)) (pa_cons (pe_either (Mt.pe0 T.clS (by exact m_Straight_way T) (hr.mono (by decide)) (Mt.pe T.clQ (by exact m_Question_step_at T) (hr.mono (by decide)) (pv 1) (pa_cons (pv 5) pa_nil))) (Mt.pe0 T.clA (by exact m_Anywhere_way T) (hr.mono (by decide)) (Mt.pe T.clQ (by exact m_Question_step_at T) (hr.mono (by decide)) (pv 1) (pa_cons (pv 5) pa_nil)))) pa_nil)))) pa_nil)))))
  (pss_cons (ps_set (i := 6) sc_down_row.nd rfl (Or.inl rfl) (Mt.pe T.clD (by exact m_Document_parts_of T) (hr.mono (by decide)) (pv 0) (pa_cons (pe_fld (Mt.pe T.clQ (by exact m_Question_step_at T) (hr.mono (by decide)) (pv 1) (pa_cons (pv 3) pa_nil)) rfl) pa_nil)))
  (pss_one (ps_ret (pe_lc (own := [("part", 7)]) (g := (gName 7)) rfl sc_down_row.nd (pi_list (pv 6)) (blkOk_by (by kernel_rfl)) (fun _ _ _ _ _ => (pg_name (i := 7) sc_down_row.nd rfl (Or.inr rfl))) (fun _ _ _ _ _ => (pts_one (pt_val (pe_callB (show CallR _ (.builtin "all") (rAll K) from cr_all rfl) (by rfl) T.z_all (by decide +kernel) (pa_cons (pe_lc (own := [("need", 8)]) (g := (gName 8)) rfl sc_down_row.nd (show PI _ _ _ (iList K _) from pi_list (pv 4)) (blkOk_by (by kernel_rfl)) (fun _ _ _ _ _ => (pg_name (i := 8) sc_down_row.nd rfl (Or.inl rfl))) (fun _ _ _ _ _ => pts_nil) (fun _ _ _ _ _ => (pe_cmp (pc_din (hu_of hr) (pv 7) (pv 8))))) pa_nil))))) (fun _ _ _ _ _ => (pv 7)))))))), ?_⟩
    have hN := O.many
    have hM := OQ.many
    obtain ⟨dx, g, st, en, up, as, ss, dq⟩ := id q
    have hsl : s < (BM.qds qs).length := by rw [BM.qds_len]; exact hs
    have hll := lows_len hsl
    rw [BM.qds_len] at hll
    refine q_asgL (el_lst ea_nil (Nat.zero_le _)) fun nd H1 h1 e1 hnd => ?_
    refine q_forNLn (xs := natV (lowsOf (BM.qds qs) s)) (en_meth (P := fun p H2 => H2 p = some (.lst (natV (lowsOf (BM.qds qs) s)))) (ev_var rfl) (e1 _ _ dq.ob) (queF_no _ _ _ _ _ (by decide +kernel) (by decide +kernel) (by decide +kernel) (by decide +kernel) (by decide +kernel)) (ea_cons (ev_var rfl) ea_nil) fun H2 e2 => ⟨b, qs, w0, s, rfl, q.mono (e1.trans e2), by omega, hs, rfl⟩)
      (fun pl i σ' H' => ∃ (v5 v6 v7 v8 : Option V) (ns : List Addr), σ' = [some (.ref a), some (.ref b), some (.ref t), some (.int (s : Int)), some (.ref nd), v5, v6, v7, v8] ∧ Ex H H' ∧ H' pl = some (.lst (natV (lowsOf (BM.qds qs) s))) ∧ pl ≠ nd ∧ Needs H' nd rows.length (lowsOf (BM.qds qs) s) (fun l z => ∃ p ∈ Tb rows qs l, BM.Rel (BM.dds rows) ((BM.queT qs).way l) z p) i ns)
      (fun pl H2 hp e2 hpl => ⟨none, none, none, none, [], rfl, e1.trans e2, hpl, (fun z => by rw [z, hnd] at hp; cases hp), e2 _ _ hnd, rfl, fun j a l h => by simp at h⟩) (fun pl i σ' H' _ ⟨_, _, _, _, _, _, _, h, _⟩ => sq_of h) ?_ ?_
    · rintro pl i x σ' H' hx ⟨v5, v6, v7, v8, ns, rfl, e, hpl, hne, B⟩
      obtain ⟨l, hl, rfl⟩ := natV_back hx
      obtain ⟨hll2, hup⟩ := (mem_lows OQ.good).mp (List.mem_of_getElem? hl)
      have hlq : l < qs.length := by rw [← BM.qds_len qs]; exact hll2
      have hsl2 := OQ.good.up_lt hll2 hup
      obtain ⟨r, hr'⟩ : ∃ r, qs[l]? = some r := ⟨qs[l], List.getElem?_eq_getElem hlq⟩
      obtain ⟨ta, hta, htb⟩ := ht.row (by omega) hlq
      have hi := (List.getElem?_eq_some_iff.mp hl).1
      refine s_appN B.ob (ev_var rfl) (en_call (P := fun d H2 => SetAt H2 d rows.length fun z => ∃ p ∈ Tb rows qs l, BM.Rel (BM.dds rows) r.1 z p) (ea_cons (ev_var rfl) (ea_cons (ev_op (ev_var rfl) (ev_var rfl) (rv_ixL (sq_of (e _ _ ht.ob)) (atI_nat (refs_at hta)))) (ea_cons (ev_wayP (ep_stepAt (w := w0) (i := l) (ev_var rfl) (q.mono e) (ea_cons (ev_var rfl) ea_nil) hr')) ea_nil))) fun H2 e2 => ⟨a, ta, rows, Tb rows qs l, r.1, rfl, d.mono (e.trans e2), O, sq_of ((e.trans e2) _ _ htb), fun p hp => Tb_lt hp, rfl⟩) (by rw [List.length_map, B.len]; omega) fun p H2 hp e2 hP => ?_
      have eb : ExB nd H2 (upd H2 nd (.lst (refsV ns ++ [.ref p]))) := ExB.refl.upd
      have hpn : p ≠ nd := fun z => by rw [z, B.ob] at hp; cases hp
      refine ⟨_, v6, v7, v8, ns ++ [p], rfl, Ex.mut (e.trans e2) h1, by rw [upd_ne hne]; exact e2 _ _ hpl, hne, ?_, by rw [List.length_append, B.len]; rfl, fun j c m hc hm => ?_⟩
      · rw [upd_same]
        show _ = some (HO.lst ((ns ++ [p]).map V.ref))
        rw [List.map_append]
        rfl
      · by_cases hj : j < i
        · rw [List.getElem?_append_left (by rw [B.len]; exact hj)] at hc
          have h3 := (B.at_ j c m hc hm).mono e2
          refine h3.exb eb fun z => ?_
          obtain ⟨ks, h4, _⟩ := h3
          rw [z, e2 _ _ B.ob] at h4
          cases h4
        · rw [List.getElem?_append_right (by rw [B.len]; omega), B.len] at hc
          have hz : j - i = 0 := by
            by_cases z : j - i = 0
            · exact z
            · rw [List.getElem?_eq_none (by rw [List.length_singleton]; omega)] at hc
              cases hc
          rw [hz] at hc
          have e3 : p = c := by simpa using hc
          have e4 : j = i := by omega
          subst e3
          subst e4
          rw [hl] at hm
          cases hm
          rw [show (BM.queT qs).way l = r.1 from que_way hr']
          exact hP.exb eb hpn
    · rintro pl σ' H' ⟨v5, v6, v7, v8, ns, rfl, e, hpl, hne, B⟩
      rw [natV_len] at B
      obtain ⟨r, hr'⟩ : ∃ r, qs[s]? = some r := ⟨qs[s], List.getElem?_eq_getElem hs⟩
      have dd := d.mono e
      obtain ⟨dx2, t2, e2', u2, as2, dd2⟩ := id dd
      refine q_asgN (P := fun p H2 => H2 p = some (.lst (natV (partsOf rows r.2.1)))) (en_meth (ev_var rfl) dd2.ob (docF_no _ _ _ (by decide +kernel) (by decide +kernel) (by decide +kernel)) (ea_cons (ev_labelP T (ep_stepAt (w := w0) (i := s) (ev_var rfl) (q.mono e) (ea_cons (ev_var rfl) ea_nil) hr')) ea_nil) fun H2 e2 => ⟨a, rows, r.2.1, rfl, dd.mono e2, by omega, rfl⟩) fun pp H2 hpp e2 hpar => ?_
      have B2 := B.mono e2
      have hpl2 : (partsOf rows r.2.1).length ≤ 1000 := by
        rw [partsOf_tbl]
        exact Nat.le_trans BM.tbl_len (by omega)
      have key : ∀ p, ((List.range (lowsOf (BM.qds qs) s).length).map fun j => BM.yes (∀ l, (lowsOf (BM.qds qs) s)[j]? = some l → ∃ z ∈ Tb rows qs l, BM.Rel (BM.dds rows) ((BM.queT qs).way l) p z)).all id = true ↔ ∀ l, l < qs.length → BM.upAt (BM.qds qs) l = some s → ∃ z ∈ Tb rows qs l, BM.Rel (BM.dds rows) ((BM.queT qs).way l) p z := fun p => by
        rw [List.all_eq_true]
        constructor
        · intro h l hl hu
          obtain ⟨j, hj⟩ := List.getElem?_of_mem ((mem_lows OQ.good).mpr ⟨by rw [BM.qds_len]; exact hl, hu⟩)
          have hjl := (List.getElem?_eq_some_iff.mp hj).1
          exact BM.yes_iff.mp (h _ (List.mem_map.mpr ⟨j, List.mem_range.mpr hjl, rfl⟩)) l hj
        · intro h x hx
          obtain ⟨j, hj, rfl⟩ := List.mem_map.mp hx
          refine BM.yes_iff.mpr fun l hl => ?_
          obtain ⟨h1, h2⟩ := (mem_lows OQ.good).mp (List.mem_of_getElem? hl)
          exact h l (by rw [← BM.qds_len qs]; exact h1) h2
      have hl := el_filt (K := K) (σ := [some (.ref a), some (.ref b), some (.ref t), some (.int (s : Int)), some (.ref nd), v5, some (.ref pp), v7, v8]) (H := H2) (a := pp) (tl := tVar 6) (j := 7) (ws := [7]) (t := tB (tCB (rAll K) (tCons (tLc (iList K (tVar 4)) (gName 8) tYes (tDIn (tVar 7) (tVar 8)) [8]) tNil)))
        (fun p => ((List.range (lowsOf (BM.qds qs) s).length).map fun j => BM.yes (∀ l, (lowsOf (BM.qds qs) s)[j]? = some l → ∃ z ∈ Tb rows qs l, BM.Rel (BM.dds rows) ((BM.queT qs).way l) p z)).all id) (ev_var rfl) (sq_of hpar) (by omega) (fun _ => rfl) (fun _ => rfl) (fun p H3 hp e3 => by
          have B3 := B2.mono e3
          have hpN : p < rows.length := by
            rw [partsOf_tbl] at hp
            exact (BM.mem_tbl.mp hp).1
          have hb := el_lcL (K := K) (σ := [some (.ref a), some (.ref b), some (.ref t), some (.int (s : Int)), some (.ref nd), v5, some (.ref pp), some (.int (p : Int)), v8]) (H := H3) (t := tYes) (te := tDIn (tVar 7) (tVar 8)) (tl := tVar 4) (j := 8) (vs := [8]) (fun _ => true) (fun j => .bl (BM.yes (∀ l, (lowsOf (BM.qds qs) s)[j]? = some l → ∃ z ∈ Tb rows qs l, BM.Rel (BM.dds rows) ((BM.queT qs).way l) p z))) (ev_var rfl) (sq_of B3.ob) (by rw [List.length_map, B3.len]; omega) (fun _ => rfl) (fun i x H1 e hi => fun H2 _ Q q => q H2 (Ex.refl H2)) (fun j x H4 e4 hj _ => by
            obtain ⟨c, hc, rfl⟩ := refs_back hj
            have hjl := (List.getElem?_eq_some_iff.mp hc).1
            rw [B3.len] at hjl
            obtain ⟨l, hl⟩ : ∃ l, (lowsOf (BM.qds qs) s)[j]? = some l := ⟨_, List.getElem?_eq_getElem hjl⟩
            obtain ⟨ks, h1, h2, h3⟩ := (B3.at_ j c l hc hl).mono e4
            refine ev_is (ev_dinK (k := kI p) (ev_var rfl) (ev_var rfl) (.inl h1)) ?_
            rw [show valV (dSet ks) (kI p) = valV (dkv kI ks) (kI p) from rfl, dkv_val kI_inj]
            refine congrArg V.bl (BM.yes_eq ?_).symm
            rw [decide_eq_true_iff, h3 p]
            constructor
            · rintro ⟨_, h⟩ m hm
              rw [hl] at hm
              cases hm
              exact h
            · exact fun h => ⟨hpN, h l hl⟩)
          rw [given_all, List.length_map, B3.len, show (fun j => V.bl (BM.yes (∀ l, (lowsOf (BM.qds qs) s)[j]? = some l → ∃ z ∈ Tb rows qs l, BM.Rel (BM.dds rows) ((BM.queT qs).way l) p z))) = V.bl ∘ (fun j => BM.yes (∀ l, (lowsOf (BM.qds qs) s)[j]? = some l → ∃ z ∈ Tb rows qs l, BM.Rel (BM.dds rows) ((BM.queT qs).way l) p z)) from rfl, ← List.map_map] at hb
          exact et_B (ev_all hb))
      have hfin : (partsOf rows r.2.1).filter (fun p => ((List.range (lowsOf (BM.qds qs) s).length).map fun j => BM.yes (∀ l, (lowsOf (BM.qds qs) s)[j]? = some l → ∃ z ∈ Tb rows qs l, BM.Rel (BM.dds rows) ((BM.queT qs).way l) p z)).all id) = Tb rows qs s := by
        rw [partsOf_tbl, BM.tbl_filter]
        unfold Tb
        refine BM.tbl_ext fun p hp => ?_
        rw [BM.down_iff]
        have hk := key p
        constructor
        · rintro ⟨h1, h2⟩
          exact ⟨hp, by rw [h1, que_lab hr'], fun l hl hu => by
            obtain ⟨z, hz, hR⟩ := hk.mp h2 l hl hu
            exact ⟨z, hR, (BM.mem_tbl.mp hz).2⟩⟩
        · rintro ⟨_, h1, h2⟩
          refine ⟨by rw [h1, que_lab hr'], hk.mpr fun l hl hu => ?_⟩
          obtain ⟨z, hR, hD⟩ := h2 l hl hu
          exact ⟨z, BM.mem_tbl.mpr ⟨hD.lt, hD⟩, hR⟩
      rw [hfin] at hl
      exact s_retL hl fun p H3 hp e3 h3 => k p H3 (fresh_back (e.trans e2) hp) ((e.trans e2).trans e3) h3
end
end Bo
set_option Elab.async false
set_option linter.all false
set_option maxRecDepth 100000
set_option maxHeartbeats 4000000
namespace Bo
open PySem PySem.Spec PyProof.Rows L2 Evl BK BL
section
variable {P : Program} {w : World} {K : PySem.W.Frag} {mg : Str → Option Value} {base : Heap} {CD CQ CS CA : Addr}
/-! ### full_row -/
def spFRow (K : PySem.W.Frag) (CD CQ CS CA : Addr) : Sp := spN fun vs H P => ∃ (a b dn t : Addr) (s w : Nat) (rows : List DR) (qs : List QR) (us ts : List Addr), vs = [.ref a, .ref b, .ref dn, .ref t, .int (s : Int)] ∧ DocOb K CD H a rows ∧ OkD rows ∧ QueOb K CQ CS CA H b qs w ∧ OkQ qs ∧ s < qs.length ∧
  TabL H dn qs.length 0 (Tb rows qs) us ∧ TabL H t s 0 (Fb rows qs (root0 qs)) ts ∧ P = fun p H2 => H2 p = some (.lst (natV (Fb rows qs (root0 qs) s)))
theorem up_opt {qs : List QR} (O : OkQ qs) {s : Nat} (hs : s < qs.length) : (s = 0 ∧ BM.upAt (BM.qds qs) s = none) ∨ ∃ u, BM.upAt (BM.qds qs) s = some u ∧ u < s := by
  by_cases h : s = 0
  · subst h
    exact .inl ⟨rfl, O.good.up_zero⟩
  · obtain ⟨u, h1, h2⟩ := O.good.up_some (i := s) (by omega) (by rw [BM.qds_len]; exact hs)
    exact .inr ⟨u, h1, h2.lt⟩
theorem sc_full_row : FnScope ["document", "question", "down", "table", "step", "kind", "upper", "above", "part"] ["document", "question", "down", "table", "step"] (defScope s_full_row) := ⟨rfl, rfl, rfl, by decide +kernel, rfl, by decide +kernel, by decide +kernel⟩
theorem fn_full_row (T : Txt K mg CD CQ CS CA) : Fn P w K mg base "full_row" 6 ["document", "question", "down", "table", "step"] (spFRow K CD CQ CS CA) := by
  refine Fn.of T.g_full_row sc_full_row (fun _ _ _ _ _ _ us hl => match us, hl with | [_, _, _, _, _], _ => rfl) (fun vs H Q E h => ?_) (fun f cdv A outer s H vs Q E hr h => ?_)
  · obtain ⟨P, ⟨a, b, dn, t, s, w0, rows, qs, us, ts, rfl, _⟩, _⟩ := h
    rfl
  · obtain ⟨P', ⟨a, b, dn, t, s, w0, rows, qs, us, ts, rfl, d, O, q, OQ, hs, hu, ht, rfl⟩, k⟩ := h
    refine ⟨_, (pss_cons (ps_set (i := 5) sc_full_row.nd rfl (Or.inr rfl) (Mt.pe T.clQ (by exact m_Question_step_at T) (hr.mono (by decide)) (pv 1) (pa_cons (pv 4) pa_nil)))
  (pss_cons (ps_set (i := 6) sc_full_row.nd rfl (Or.inl rfl) (Mt.pe T.clQ (by exact m_Question_upper_of T) (hr.mono (by decide)) (pv 1) (pa_cons (pv 4) pa_nil)))
  (pss_cons (ps_if (pt_cmp (pc_isN (pv 6))) (pss_one (ps_ret (pe_lc (own := [("part", 8)]) (g := (gName 8)) rfl sc_full_row.nd (pi_list (pe_ix ix_list (pv 2) (pv 4) (fun _ _ => rfl))) (blkOk_by (by kernel_rfl)) (fun _ _ _ _ _ => (pg_name (i := 8) sc_full_row.nd rfl (Or.inl rfl))) (fun _ _ _ _ _ => (pts_one (PW.pt (pw_or (pt_cmpR op_eq (pe_either (Mt.pe0 T.clS (by exact m_Straight_way T) (hr.mono (by decide)) (pv 5)) (Mt.pe0 T.clA (by exact m_Anywhere_way T) (hr.mono (by decide)) (pv 5))) pe_str (nomark _)) (pw_or1 (pt_cmpR op_eq (pv 8) pe_int (nomark _))))))) (fun _ _ _ _ _ => (pv 8))))) pss_nil)
  (pss_cons (ps_set (i := 7) sc_full_row.nd rfl (Or.inr rfl) (Fn.pe (by exact fn_with_above T) (hr.mono (by decide)) (by rfl) (pa_cons (pv 0) (pa_cons (pe_ix ix_list (pv 3) (pv 6) (fun _ _ => rfl)) (pa_cons (pe_either (Mt.pe0 T.clS (by exact m_Straight_way T) (hr.mono (by decide)) (pv 5)) (Mt.pe0 T.clA (by exact m_Anywhere_way T) (hr.mono (by decide)) (pv 5))) pa_nil)))))
  (pss_one (ps_ret (pe_lc (own := [("part", 8)]) (g := (gName 8)) rfl sc_full_row.nd (pi_list (pe_ix ix_list (pv 2) (pv 4) (fun _ _ => rfl))) (blkOk_by (by kernel_rfl)) (fun _ _ _ _ _ => (pg_name (i := 8) sc_full_row.nd rfl (Or.inl rfl))) (fun _ _ _ _ _ => (pts_one (pt_cmp (pc_din (hu_of hr) (pv 8) (pv 7))))) (fun _ _ _ _ _ => (pv 8))))))))), ?_⟩
    have hN := O.many
    have hM := OQ.many
    obtain ⟨r, hr'⟩ : ∃ r, qs[s]? = some r := ⟨qs[s], List.getElem?_eq_getElem hs⟩
    obtain ⟨us', hus, hub⟩ := hu.row (Nat.zero_le _) hs
    refine q_asgP (ep_stepAt (w := w0) (i := s) (ev_var rfl) q (ea_cons (ev_var rfl) ea_nil) hr') fun v H1 e1 ⟨pk, hv, hS⟩ => ?_
    subst hv
    obtain ⟨dx, g, st, en, up, as, ss, dq⟩ := id (q.mono e1)
    refine q_asg (ev_methV (ev_var rfl) dq.ob (queF_no _ _ _ _ _ (by decide +kernel) (by decide +kernel) (by decide +kernel) (by decide +kernel) (by decide +kernel)) (ea_cons (ev_var rfl) ea_nil) fun H2 e2 => ⟨b, qs, w0, s, rfl, q.mono (e1.trans e2), hs, rfl⟩) fun H2 e2 => ?_
    have e12 := e1.trans e2
    have hz : (Tb rows qs s).length ≤ 40000 := Nat.le_trans Tb_len (by omega)
    refine q_when (b := decide (optV (BM.upAt (BM.qds qs) s) = .non)) (et_B (ev_isN (ev_var rfl))) (fun hb H3 e3 => ?_) fun hb H3 e3 => ?_
    · have hn := optV_non.mp (of_decide_eq_true hb)
      have hs0 : s = 0 := by
        rcases up_opt OQ hs with h | ⟨u, h, _⟩
        · exact h.1
        · rw [h] at hn
          cases hn
      subst hs0
      have e13 := e12.trans e3
      have hl := el_filt (K := K) (σ := [some (.ref a), some (.ref b), some (.ref dn), some (.ref t), some (.int ((0 : Nat) : Int)), some (.ref pk), some (optV (BM.upAt (BM.qds qs) 0)), none, none]) (H := H3) (a := us') (tl := tOp (rIxL K) (tVar 2) (tVar 4)) (j := 8) (ws := [8])
        (t := tOr (tTest (tOp rEq (tEither (tMeth CS "way" (spWay "/") [] E0 (tVar 5) tNil) (tMeth CA "way" (spWay "//") [] E0 (tVar 5) tNil)) (tC (.str "//")))) (tTest (tOp rEq (tVar 8) (tC (.int 0))))) (ps := Tb rows qs 0)
        (fun p => decide (V.str (wayS r.1) = V.str "//") || decide (V.int (p : Int) = V.int 0)) (ev_op (ev_var rfl) (ev_var rfl) (rv_ixL (sq_of (e13 _ _ hu.ob)) (atI_nat (refs_at hus)))) (sq_of (e13 _ _ hub)) hz (fun _ => rfl) (fun _ => rfl) (fun p H4 hp e4 =>
          et_or (et_test (ev_op (ev_wayP (ep_var rfl fun H5 e5 => ⟨pk, rfl, hS.mono ((e2.trans e3).trans (e4.trans e5))⟩)) ev_c (rv_eq rfl))) fun _ => et_test (ev_op (ev_var rfl) ev_c (rv_eq rfl)))
      have hfin : (Tb rows qs 0).filter (fun (p : Nat) => decide (V.str (wayS r.1) = V.str "//") || decide (V.int (p : Int) = V.int 0)) = Fb rows qs (root0 qs) 0 := by
        unfold Tb Fb
        rw [BM.tbl_filter]
        refine BM.tbl_ext fun p hp => ?_
        rw [BM.full_zero (BM.queT_ok OQ.good)]
        refine and_congr Iff.rfl ?_
        unfold root0
        rw [que_way hr', Bool.or_eq_true, decide_eq_true_iff, decide_eq_true_iff]
        refine or_congr ?_ ?_
        · cases r.1 with
          | false => exact ⟨fun h => absurd h (by decide +kernel), fun h => by cases h⟩
          | true => exact ⟨fun _ => rfl, fun _ => rfl⟩
        · constructor
          · intro h
            injection h with h
            omega
          · intro h
            rw [h]
            rfl
      rw [hfin] at hl
      exact s_retL hl fun p H4 hp e4 h4 => k p H4 (fresh_back e13 hp) (e13.trans e4) h4
    · obtain ⟨u, hup, hus2⟩ : ∃ u, BM.upAt (BM.qds qs) s = some u ∧ u < s := by
        rcases up_opt OQ hs with h | h
        · rw [h.2] at hb
          cases hb
        · exact h
      rw [hup]
      have e13 := e12.trans e3
      obtain ⟨ta, hta, htb⟩ := ht.row (Nat.zero_le _) hus2
      refine q_asgN (P := fun d H4 => SetAt H4 d rows.length fun z => ∃ p ∈ Fb rows qs (root0 qs) u, BM.Rel (BM.dds rows) r.1 p z) (en_call (ea_cons (ev_var rfl) (ea_cons (ev_op (ev_var rfl) (ev_var rfl) (rv_ixL (sq_of (e13 _ _ ht.ob)) (atI_nat (refs_at hta)))) (ea_cons (ev_wayP (ep_var rfl fun H5 e5 => ⟨pk, rfl, hS.mono ((e2.trans e3).trans e5)⟩)) ea_nil))) fun H4 e4 => ⟨a, ta, rows, Fb rows qs (root0 qs) u, r.1, rfl, d.mono (e13.trans e4), O, sq_of ((e13.trans e4) _ _ htb), fun p hp => Fb_lt hp, rfl⟩) fun pd H4 hpd e4 hA => ?_
      obtain ⟨ks, hk1, hk2, hk3⟩ := hA
      have e14 := e13.trans e4
      have hl := el_filt (K := K) (σ := [some (.ref a), some (.ref b), some (.ref dn), some (.ref t), some (.int (s : Int)), some (.ref pk), some (optV (some u)), some (.ref pd), none]) (H := H4) (a := us') (tl := tOp (rIxL K) (tVar 2) (tVar 4)) (j := 8) (ws := [8])
        (t := tB (tDIn (tVar 8) (tVar 7))) (ps := Tb rows qs s) (fun p => decide (p ∈ ks)) (ev_op (ev_var rfl) (ev_var rfl) (rv_ixL (sq_of (e14 _ _ hu.ob)) (atI_nat (refs_at hus)))) (sq_of (e14 _ _ hub)) hz (fun _ => rfl) (fun _ => rfl) (fun p H5 hp e5 => by
          refine et_is (et_B (ev_dinK (k := kI p) (ev_var rfl) (ev_var rfl) (.inl (e5 _ _ hk1)))) ?_
          rw [show valV (dSet ks) (kI p) = valV (dkv kI ks) (kI p) from rfl, dkv_val kI_inj])
      have hfin : (Tb rows qs s).filter (fun p => decide (p ∈ ks)) = Fb rows qs (root0 qs) s := by
        unfold Tb
        rw [BM.tbl_filter]
        conv => rhs; unfold Fb
        refine BM.tbl_ext fun p hp => ?_
        rw [BM.full_step (BM.queT_ok OQ.good) (s := s) (u := u) hs hup]
        refine and_congr Iff.rfl ?_
        rw [decide_eq_true_iff, hk3 p, que_way hr']
        constructor
        · rintro ⟨_, z, hz, hR⟩
          exact ⟨z, (BM.mem_tbl.mp hz).2, hR⟩
        · rintro ⟨z, hF, hR⟩
          exact ⟨hp, z, BM.mem_tbl.mpr ⟨hF.lt, hF⟩, hR⟩
      rw [hfin] at hl
      exact s_retL hl fun p H5 hp e5 h5 => k p H5 (fresh_back e14 hp) (e14.trans e5) h5
/-! ### down_table -/
def spDTab (K : PySem.W.Frag) (CD CQ CS CA : Addr) : Sp := spN fun vs H P => ∃ (a b : Addr) (w : Nat) (rows : List DR) (qs : List QR), vs = [.ref a, .ref b] ∧ DocOb K CD H a rows ∧ OkD rows ∧ QueOb K CQ CS CA H b qs w ∧ OkQ qs ∧ P = fun p H2 => ∃ ts, TabL H2 p qs.length 0 (Tb rows qs) ts
theorem q_no (g : Addr) (w : Int) (s e u : Addr) {m : Str} (h : decide (m ∈ (["uppers", "ends", "steps", "goal", "given_rows"] : List Str)) = false) : (queF g w s e u).lookup m = none := by
  have h := of_decide_eq_false h
  refine queF_no _ _ _ _ _ (fun z => h ?_) (fun z => h ?_) (fun z => h ?_) (fun z => h ?_) (fun z => h ?_) <;> rw [z] <;> simp
theorem TabL.set {H : Hp} {t : Addr} {n lo : Nat} {T : Nat → List Nat} {ts : List Addr} (h : TabL H t n (lo + 1) T ts) (hlo : lo < n) {p : Addr} (hp : H p = some (.lst (natV (T lo)))) (hne : p ≠ t) : TabL (upd H t (.lst ((refsV ts).set lo (.ref p)))) t n lo T (ts.set lo p) := by
  refine ⟨?_, by rw [List.length_set, h.len], fun l a h1 h2 => ?_⟩
  · rw [upd_same]
    show _ = some (HO.lst ((ts.set lo p).map V.ref))
    rw [List.map_set]
  · by_cases hl : l = lo
    · subst hl
      rw [List.getElem?_set_self (by rw [h.len]; exact hlo)] at h2
      cases h2
      rw [upd_ne hne]
      exact hp
    · rw [List.getElem?_set_ne (by omega)] at h2
      have h3 := h.at_ l a (by omega) h2
      rw [upd_ne fun z => ?_]
      · exact h3
      · rw [z, h.ob] at h3
        cases ts with
        | nil => simp at h2
        | cons c cs =>
          have h4 : V.ref c :: refsV cs = natV (T l) := by
            injection h3 with h3
            injection h3
          cases hT : T l with
          | nil => rw [hT] at h4; cases h4
          | cons m ms =>
            rw [hT] at h4
            have h5 : V.ref c :: refsV cs = V.int (m : Int) :: natV ms := h4
            injection h5 with h6
            cases h6
theorem sc_down_table : FnScope ["document", "question", "table", "step"] ["document", "question"] (defScope s_down_table) := ⟨rfl, rfl, rfl, by decide +kernel, rfl, by decide +kernel, by decide +kernel⟩
theorem fn_down_table (T : Txt K mg CD CQ CS CA) : Fn P w K mg base "down_table" 7 ["document", "question"] (spDTab K CD CQ CS CA) := by
  refine Fn.of T.g_down_table sc_down_table (fun _ _ _ _ _ _ us hl => match us, hl with | [_, _], _ => rfl) (fun vs H Q E h => ?_) (fun f cdv A outer s H vs Q E hr h => ?_)
  · obtain ⟨P, ⟨a, b, w0, rows, qs, rfl, _⟩, _⟩ := h
    rfl
  · obtain ⟨P', ⟨a, b, w0, rows, qs, rfl, d, O, q, OQ, rfl⟩, k⟩ := h
    refine ⟨_, (pss_cons (ps_setLc (i := 2) (own := [("step", 3)]) (g := (gName 3)) rfl sc_down_table.nd rfl rfl (sw_true rfl rfl rfl (by decide +kernel)) (pi_range1 rfl T.z_range (pa_cons (Mt.pe0 T.clQ (by exact m_Question_many T) (hr.mono (by decide)) (pv 1)) pa_nil)) (blkOk_by (by kernel_rfl)) (fun _ _ _ _ _ => (pg_name (i := 3) sc_down_table.nd rfl (Or.inl rfl))) (fun _ _ _ _ _ => pts_nil) (fun _ _ _ _ _ => (pe_lst pa_nil)))
  (pss_cons (ps_for PassesOwn.never rfl (pi_revR (by rfl) T.z_reversed (prg_1 (by rfl) T.z_range (Mt.pe0 T.clQ (by exact m_Question_many T) (hr.mono (by decide)) (pv 1)))) (pg_name (i := 3) sc_down_table.nd rfl (Or.inl rfl)) (pss_one (ps_asg (Fn.pe (by exact fn_down_row T) (hr.mono (by decide)) (by rfl) (pa_cons (pv 0) (pa_cons (pv 1) (pa_cons (pv 2) (pa_cons (pv 3) pa_nil))))) (pg_sub (pv 2) (pv 3) set_list))))
  (pss_one (ps_ret (pv 2))))), ?_⟩
    have hN := O.many
    have hM := OQ.many
    obtain ⟨dx, g, st, en, up, as, ss, dq⟩ := id q
    have hmany : ∀ {σ : L2.St} {H1 : Hp} {E : XK}, σ[1]? = some (some (.ref b)) → Ex H H1 → Ev (tMeth CQ "many" (spQMany K CQ CS CA) [] E (tVar 1) tNil) σ H1 (.int ((qs.length : Nat) : Int)) := fun hσ e => ev_methV (ev_var hσ) (e _ _ dq.ob) (q_no _ _ _ _ _ (by decide +kernel)) ea_nil fun H2 e2 => ⟨b, qs, w0, rfl, q.mono (e.trans e2), rfl⟩
    have hlc := en_lcO (σ := [some (.ref a), some (.ref b), none, none]) (H := H) (wi := iRng1 (tCons (tMeth CQ "many" (spQMany K CQ CS CA) [] E0 (tVar 1) tNil) tNil)) (g := gName 3) (te := tLst tNil) (ws := [3]) (n := ((qs.length : Nat) : Int).toNat) (fun i o => True) (by omega) (ei_range1 (hmany rfl (Ex.refl H)) (by omega) (by omega)) walk_range (fun _ _ => True.intro) (fun i y H6 H7 hi e6 hy => by
      obtain ⟨rfl, hy⟩ := hy
      exact ⟨_, Ex.refl _, fun R r => r, rfl, fun H8 e8 Q8 q8 => el_lst ea_nil (Nat.zero_le _) H8 e8 Q8 fun p H9 hp e9 h9 => q8 p H9 hp e9 ⟨_, h9, trivial⟩⟩)
    refine q_asgN hlc fun t H1 h1 e1 ⟨ts0, ht0, hO, _⟩ => ?_
    have hn : ((qs.length : Nat) : Int).toNat = qs.length := by omega
    rw [hn] at hO
    have hJ : EvI (iRevR (tRg1 (tMeth CQ "many" (spQMany K CQ CS CA) [] E0 (tVar 1) tNil))) [some (.ref a), some (.ref b), some (.ref t), none] H1 (Itc ((0 : Int) + (((((qs.length : Nat) : Int) - 0).toNat : Nat) : Int) - 1) (-1) (((qs.length : Nat) : Int) - 0).toNat) := fun H2 e2 R r => hmany rfl (e1.trans e2) H2 (Ex.refl H2) _ fun H3 e3 => ⟨_, rfl, by omega, by omega, by omega, by omega, r H3 e3⟩
    have hn2 : (((qs.length : Nat) : Int) - 0).toNat = qs.length := by omega
    rw [hn2] at hJ
    refine q_forI hJ walk_rangeC (fun i σ' H' => ∃ (v3 : Option V) (ts : List Addr), σ' = [some (.ref a), some (.ref b), some (.ref t), v3] ∧ Ex H H' ∧ TabL H' t qs.length (qs.length - i) (Tb rows qs) ts)
      (fun H2 e2 => ⟨none, ts0, rfl, e1.trans e2, e2 _ _ ht0, hO.len, fun l c h1 h2 => by
        have := (List.getElem?_eq_some_iff.mp h2).1
        rw [hO.len] at this
        omega⟩) (fun _ _ _ _ _ => trivial) ?_ ?_
    · rintro i y σ' H' H'' hi ⟨v3, ts, rfl, e, hT⟩ ⟨rfl, hy⟩
      have hy : y = .int ((qs.length - 1 - i : Nat) : Int) := by
        rw [hy]
        exact congrArg V.int (by omega)
      subst hy
      have hs : qs.length - 1 - i < qs.length := by omega
      have hlo : qs.length - i = (qs.length - 1 - i) + 1 := by omega
      rw [hlo] at hT
      refine s_setN hT.ob (en_call (P := fun p H2 => H2 p = some (.lst (natV (Tb rows qs (qs.length - 1 - i))))) (ea_cons (ev_var rfl) (ea_cons (ev_var rfl) (ea_cons (ev_var rfl) (ea_cons (ev_var rfl) ea_nil)))) fun H2 e2 => ⟨a, b, t, _, w0, rows, qs, ts, rfl, d.mono (e.trans e2), O, q.mono (e.trans e2), OQ, hs, hT.mono e2, rfl⟩) (ev_var rfl) (ev_var rfl) (by rw [List.length_map, hT.len]; exact hs) fun p H2 hp e2 ⟨H0, hP, e0⟩ => ?_
      have hpt : p ≠ t := fun z => by
        rw [z, hT.ob] at hp
        cases hp
      refine ⟨_, ts.set (qs.length - 1 - i) p, rfl, Ex.mut (e.trans e2) h1, ?_⟩
      rw [show qs.length - (i + 1) = qs.length - 1 - i by omega]
      exact (hT.mono e2).set hs (e0 _ _ hP) hpt
    · rintro σ' H' ⟨v3, ts, rfl, e, hT⟩
      rw [Nat.sub_self] at hT
      exact s_ret (ev_var rfl) fun H2 e2 => k t H2 h1 (e.trans e2) ⟨ts, hT.mono e2⟩
/-! ### full_table -/
def spFTab (K : PySem.W.Frag) (CD CQ CS CA : Addr) : Sp := spN fun vs H P => ∃ (a b : Addr) (w : Nat) (rows : List DR) (qs : List QR), vs = [.ref a, .ref b] ∧ DocOb K CD H a rows ∧ OkD rows ∧ QueOb K CQ CS CA H b qs w ∧ OkQ qs ∧ P = fun p H2 => ∃ ts, TabL H2 p qs.length 0 (Fb rows qs (root0 qs)) ts
theorem TabL.snoc {H : Hp} {t : Addr} {n : Nat} {T : Nat → List Nat} {ts : List Addr} (h : TabL H t n 0 T ts) {p : Addr} (hp : H p = some (.lst (natV (T n)))) (hne : p ≠ t) : TabL (upd H t (.lst (refsV ts ++ [.ref p]))) t (n + 1) 0 T (ts ++ [p]) := by
  refine ⟨?_, by rw [List.length_append, h.len]; rfl, fun l a h1 h2 => ?_⟩
  · rw [upd_same]
    show _ = some (HO.lst ((ts ++ [p]).map V.ref))
    rw [List.map_append]
    rfl
  · by_cases hl : l < n
    · rw [List.getElem?_append_left (by rw [h.len]; exact hl)] at h2
      have h3 := h.at_ l a h1 h2
      rw [upd_ne fun z => ?_]
      · exact h3
      · rw [z, h.ob] at h3
        cases ts with
        | nil => simp at h2
        | cons c cs =>
          have h4 : V.ref c :: refsV cs = natV (T l) := by
            injection h3 with h3
            injection h3
          cases hT : T l with
          | nil => rw [hT] at h4; cases h4
          | cons m ms =>
            rw [hT] at h4
            have h5 : V.ref c :: refsV cs = V.int (m : Int) :: natV ms := h4
            injection h5 with h6
            cases h6
    · rw [List.getElem?_append_right (by rw [h.len]; omega), h.len] at h2
      have hz : l - n = 0 := by
        by_cases z : l - n = 0
        · exact z
        · rw [List.getElem?_eq_none (by rw [List.length_singleton]; omega)] at h2
          cases h2
      rw [hz] at h2
      have e3 : p = a := by simpa using h2
      have e4 : l = n := by omega
      subst e3
      subst e4
      rw [upd_ne hne]
      exact hp
theorem sc_full_table : FnScope ["document", "question", "down", "table", "step"] ["document", "question"] (defScope s_full_table) := ⟨rfl, rfl, rfl, by decide +kernel, rfl, by decide +kernel, by decide +kernel⟩
theorem fn_full_table (T : Txt K mg CD CQ CS CA) : Fn P w K mg base "full_table" 8 ["document", "question"] (spFTab K CD CQ CS CA) := by
  refine Fn.of T.g_full_table sc_full_table (fun _ _ _ _ _ _ us hl => match us, hl with | [_, _], _ => rfl) (fun vs H Q E h => ?_) (fun f cdv A outer s H vs Q E hr h => ?_)
  · obtain ⟨P, ⟨a, b, w0, rows, qs, rfl, _⟩, _⟩ := h
    rfl
  · obtain ⟨P', ⟨a, b, w0, rows, qs, rfl, d, O, q, OQ, rfl⟩, k⟩ := h
    refine ⟨_, (pss_cons (ps_set (i := 2) sc_full_table.nd rfl (Or.inl rfl) (Fn.pe (by exact fn_down_table T) (hr.mono (by decide)) (by rfl) (pa_cons (pv 0) (pa_cons (pv 1) pa_nil))))
  (pss_cons (ps_set (i := 3) sc_full_table.nd rfl (Or.inl rfl) (pe_lst pa_nil))
  (pss_cons (ps_for PassesOwn.never rfl (pi_range1 rfl T.z_range (pa_cons (Mt.pe0 T.clQ (by exact m_Question_many T) (hr.mono (by decide)) (pv 1)) pa_nil)) (pg_name (i := 4) sc_full_table.nd rfl (Or.inl rfl)) (pss_one (ps_expr (pe_bm PySem.F.plainAttrs_list PySem.F.slot_list_append PySem.F.type_list_append mt_append (pv 3) (pa_cons (Fn.pe (by exact fn_full_row T) (hr.mono (by decide)) (by rfl) (pa_cons (pv 0) (pa_cons (pv 1) (pa_cons (pv 2) (pa_cons (pv 3) (pa_cons (pv 4) pa_nil)))))) pa_nil)))))
  (pss_one (ps_ret (pv 3)))))), ?_⟩
    have hN := O.many
    have hM := OQ.many
    obtain ⟨dx, g, st, en, up, as, ss, dq⟩ := id q
    refine q_asgN (P := fun p H2 => ∃ ts, TabL H2 p qs.length 0 (Tb rows qs) ts) (en_call (ea_cons (ev_var rfl) (ea_cons (ev_var rfl) ea_nil)) fun H2 e2 => ⟨a, b, w0, rows, qs, rfl, d.mono e2, O, q.mono e2, OQ, rfl⟩) fun dn H1 h1 e1 ⟨us, hU⟩ => ?_
    refine q_asgL (el_lst ea_nil (Nat.zero_le _)) fun t H2 h2 e2 ht => ?_
    have e12 := e1.trans e2
    refine q_forI (ei_range1 (j := ((qs.length : Nat) : Int)) (ev_methV (ev_var rfl) (e12 _ _ dq.ob) (q_no _ _ _ _ _ (by decide +kernel)) ea_nil fun H3 e3 => ⟨b, qs, w0, rfl, q.mono (e12.trans e3), rfl⟩) (by omega) (by omega)) walk_range (fun i σ' H' => ∃ (v4 : Option V) (ts : List Addr), σ' = [some (.ref a), some (.ref b), some (.ref dn), some (.ref t), v4] ∧ Ex H1 H' ∧ TabL H' t i 0 (Fb rows qs (root0 qs)) ts)
      (fun H3 e3 => ⟨none, [], rfl, e2.trans e3, e3 _ _ ht, rfl, fun l c h1 h2 => by simp at h2⟩) (fun _ _ _ _ _ => trivial) ?_ ?_
    · rintro i y σ' H' H'' hi ⟨v4, ts, rfl, e, hT⟩ ⟨rfl, hy⟩
      have hy : y = .int (i : Int) := by
        rw [hy]
        exact congrArg V.int (by omega)
      subst hy
      have hs : i < qs.length := by omega
      refine s_appN hT.ob (ev_var rfl) (en_call (P := fun p H2 => H2 p = some (.lst (natV (Fb rows qs (root0 qs) i)))) (ea_cons (ev_var rfl) (ea_cons (ev_var rfl) (ea_cons (ev_var rfl) (ea_cons (ev_var rfl) (ea_cons (ev_var rfl) ea_nil))))) fun H3 e3 => ⟨a, b, dn, t, i, w0, rows, qs, us, ts, rfl, d.mono ((e1.trans e).trans e3), O, q.mono ((e1.trans e).trans e3), OQ, hs, hU.mono (e.trans e3), hT.mono e3, rfl⟩) (by rw [List.length_map, hT.len]; omega) fun p H3 hp e3 hP => ?_
      have hpt : p ≠ t := fun z => by
        rw [z, hT.ob] at hp
        cases hp
      exact ⟨_, ts ++ [p], rfl, Ex.mut (e.trans e3) h2, (hT.mono e3).snoc hP hpt⟩
    · rintro σ' H' ⟨v4, ts, rfl, e, hT⟩
      rw [Int.toNat_natCast] at hT
      exact s_ret (ev_var rfl) fun H3 e3 => k t H3 (fresh_back e1 h2) ((e1.trans e).trans e3) ⟨ts, hT.mono e3⟩
/-! ### run_slow -/
def spRun (K : PySem.W.Frag) (CD CQ CS CA : Addr) : Sp := spP fun vs H P => ∃ (a b : Addr) (w : Nat) (rows : List DR) (qs : List QR), vs = [.ref a, .ref b] ∧ DocOb K CD H a rows ∧ OkD rows ∧ QueOb K CQ CS CA H b qs w ∧ OkQ qs ∧ w < qs.length ∧ P = fun v H2 => ∃ p, v = .ref p ∧ H2 p = some (.lst (natV (Fb rows qs (root0 qs) w)))
theorem ep_opN {r : R2} {σ : L2.St} {H : Hp} {ta tb : TE} {y : V} {P : Addr → Hp → Prop} {P' : V → Hp → Prop} (ha : EvN ta σ H P) (hb : Ev tb σ H y) (hr : ∀ p H1 H2, P p H1 → Ex H H1 → Ex H1 H2 → ∀ Q : VK, (∀ v H3, Ex H2 H3 → P' v H3 → Q v H3) → r (.ref p) y H2 Q) : EvP (tOp r ta tb) σ H P' := fun H1 e Q q =>
  ha H1 e _ fun p H2 _ e2 hp => hb H2 (e.trans e2) _ fun H3 e3 => hr p H2 H3 hp (e.trans e2) e3 Q fun v H4 e4 hv => q v H4 ((e2.trans e3).trans e4) hv
theorem s_retP {te : TE} {σ : L2.St} {H : Hp} {D : Ends} {P : V → Hp → Prop} (h : EvP te σ H P) (k : ∀ v H1, Ex H H1 → P v H1 → D.rt v H1) : tRet te D σ H := h H (Ex.refl H) _ k
theorem ep_rowAt {σ : L2.St} {H : Hp} {ta tb : TE} {n w : Nat} {T : Nat → List Nat} (ha : EvN ta σ H (fun p H2 => ∃ ts, TabL H2 p n 0 T ts)) (hb : Ev tb σ H (.int (w : Int))) (hw : w < n) : EvP (tOp (rIxL K) ta tb) σ H (fun v H2 => ∃ p, v = .ref p ∧ H2 p = some (.lst (natV (T w)))) :=
  ep_opN ha hb fun p H1 H2 ⟨ts, hT⟩ e e2 Q q => by
    obtain ⟨c, hc, hcb⟩ := (hT.mono e2).row (Nat.zero_le _) hw
    exact ⟨p, refsV ts, (w : Int), .ref c, rfl, rfl, sq_of (e2 _ _ hT.ob), atI_nat (refs_at hc), q _ H2 (Ex.refl H2) ⟨c, rfl, hcb⟩⟩
theorem sc_run_slow : FnScope ["document", "question"] ["document", "question"] (defScope s_run_slow) := ⟨rfl, rfl, rfl, by decide +kernel, rfl, by decide +kernel, by decide +kernel⟩
theorem fn_run_slow (T : Txt K mg CD CQ CS CA) : Fn P w K mg base "run_slow" 9 ["document", "question"] (spRun K CD CQ CS CA) := by
  refine Fn.of T.g_run_slow sc_run_slow (fun _ _ _ _ _ _ us hl => match us, hl with | [_, _], _ => rfl) (fun vs H Q E h => ?_) (fun f cdv A outer s H vs Q E hr h => ?_)
  · obtain ⟨P, ⟨a, b, w0, rows, qs, rfl, _⟩, _⟩ := h
    rfl
  · obtain ⟨P', ⟨a, b, w0, rows, qs, rfl, d, O, q, OQ, hw, rfl⟩, k⟩ := h
    refine ⟨_, (pss_one (ps_ret (pe_ix ix_list (Fn.pe (by exact fn_full_table T) (hr.mono (by decide)) (by rfl) (pa_cons (pv 0) (pa_cons (pv 1) pa_nil))) (Mt.pe0 T.clQ (by exact m_Question_wanted T) (hr.mono (by decide)) (pv 1)) (fun _ _ => rfl)))), ?_⟩
    obtain ⟨dx, g, st, en, up, as, ss, dq⟩ := id q
    exact s_retP (ep_rowAt (T := Fb rows qs (root0 qs)) (en_call (ea_cons (ev_var rfl) (ea_cons (ev_var rfl) ea_nil)) fun H2 e2 => ⟨a, b, w0, rows, qs, rfl, d.mono e2, O, q.mono e2, OQ, rfl⟩) (ev_methV (ev_var rfl) dq.ob (q_no _ _ _ _ _ (by decide +kernel)) ea_nil fun H3 e3 => ⟨b, qs, w0, rfl, q.mono e3, rfl⟩) hw) fun v H1 e1 hv => k v H1 e1 hv
end
end Bo
set_option Elab.async false
set_option linter.all false
set_option maxRecDepth 100000
set_option maxHeartbeats 4000000
namespace Bo
open PySem PySem.Spec PyProof.Rows L2 Evl BK BL
section
variable {P : Program} {w : World} {K : PySem.W.Frag} {mg : Str → Option Value} {base : Heap} {CD CQ CS CA : Addr}
section
variable {σ : L2.St} {H : Hp} {te td ty tv ta tb : TE} {D : Ends} {tz tu tw : TS} {tg : TA} {t : TT}
/-- over a list that is handed back -/
theorem s_forPL {xs : List V} {tl : TE} {g : TG} (h : EvP tl σ H (fun v H2 => ∃ p, v = .ref p ∧ H2 p = some (.lst xs))) (Pv : Addr → Nat → L2.St → Hp → Prop) (h0 : ∀ p H1, Ex H H1 → H1 p = some (.lst xs) → Pv p 0 σ H1) (hl : ∀ p i σ' H', i ≤ xs.length → Pv p i σ' H' → SqL K H' p xs)
    (hs : ∀ p i x σ' H', xs[i]? = some x → Pv p i σ' H' → g x σ' H' fun σ2 H2 => tu { D with nx := Pv p (i + 1), ct := Pv p (i + 1), bk := D.nx } σ2 H2) (hd : ∀ p σ' H', Pv p xs.length σ' H' → D.nx σ' H') : tFor (iList K tl) g tu D σ H :=
  h H (Ex.refl H) _ fun v H1 e ⟨p, hv, h1⟩ => ⟨p, hv, ⟨xs, sq_of h1⟩, for_list (Pv p) (h0 p H1 e h1) (hl p) (hs p) (hd p)⟩
theorem ev_opP {r : R2} {z : V} {P : V → Hp → Prop} {y : V} (ha : EvP ta σ H P) (hb : Ev tb σ H y) (hr : ∀ x H1 H2, P x H1 → Ex H H1 → Ex H1 H2 → RV r x y H2 z) : Ev (tOp r ta tb) σ H z := fun H1 e Q q =>
  ha H1 e _ fun x H2 e2 hp => hb H2 (e.trans e2) _ fun H3 e3 => hr x H2 H3 hp (e.trans e2) e3 H3 (Ex.refl H3) Q fun H4 e4 => q H4 ((e2.trans e3).trans e4)
theorem en_lst1 {xs : List V} (h : EvL ta σ H xs) : EvN (tLst (tCons ta tNil)) σ H (fun p H2 => ∃ c, H2 p = some (.lst [.ref c]) ∧ H2 c = some (.lst xs) ∧ c ≠ p) := fun H1 e Q q =>
  h H1 e _ fun c H2 hc e2 hx => ⟨sz_of (by show 1 ≤ 100000; omega), fun p hp => q p _ (fresh_back e2 hp) (e2.trans (Ex.new hp)) (by
    have hne : c ≠ p := fun z => by
      rw [z, hp] at hx
      cases hx
    exact ⟨c, upd_same, by rw [upd_ne hne]; exact hx, hne⟩)⟩
end
theorem inV_nat {o : Option Nat} {us : List Nat} : inV (optV o) (natV us) = true ↔ ∃ x ∈ us, o = some x := by
  unfold inV natV
  rw [List.any_map, List.any_eq_true]
  refine exists_congr fun x => and_congr Iff.rfl ?_
  cases o with
  | none => exact ⟨fun h => (by cases h), fun h => (by cases h)⟩
  | some n =>
    show ((x : Int) == (n : Int)) = true ↔ _
    rw [beq_iff_eq]
    constructor
    · intro h
      rw [Int.ofNat.inj h]
    · intro h
      cases h
      rfl
/-! ### beneath_any -/
def spBAny (K : PySem.W.Frag) (CD : Addr) : Sp := spV fun vs H v => ∃ (a b : Addr) (rows : List DR) (p : Nat) (w : Bool) (us : List Nat), vs = [.ref a, .int (p : Int), .str (wayS w), .ref b] ∧ DocOb K CD H a rows ∧ p < rows.length ∧ SqL K H b (natV us) ∧ (∀ x ∈ us, x < rows.length) ∧ us.length ≤ 1000 ∧
  v = .bl (BM.yes (∃ x ∈ us, BM.Rel (BM.dds rows) w x p))
theorem sc_beneath_any : FnScope ["document", "part", "way", "uppers", "upper"] ["document", "part", "way", "uppers"] (defScope s_beneath_any) := ⟨rfl, rfl, rfl, by decide +kernel, rfl, by decide +kernel, by decide +kernel⟩
theorem fn_beneath_any (T : Txt K mg CD CQ CS CA) : Fn P w K mg base "beneath_any" 5 ["document", "part", "way", "uppers"] (spBAny K CD) := by
  refine Fn.of T.g_beneath_any sc_beneath_any (fun _ _ _ _ _ _ us hl => match us, hl with | [_, _, _, _], _ => rfl) (fun vs H Q E h => ?_) (fun f cdv A outer s H vs Q E hr h => ?_)
  · obtain ⟨P, ⟨a, b, rows, p, w0, us, rfl, _⟩, _⟩ := h
    rfl
  · obtain ⟨P', ⟨a, b, rows, p, w0, us, rfl, d, hp, hu, hul, hz, rfl⟩, k⟩ := h
    refine ⟨_, (pss_cons (ps_if (pt_cmpR op_eq (pv 2) pe_str (nomark _)) (pss_one (ps_ret (pe_cmpR op_in_seq (Mt.pe T.clD (by exact m_Document_upper_of T) (hr.mono (by decide)) (pv 0) (pa_cons (pv 1) pa_nil)) (pv 3) (by rfl)))) pss_nil)
  (pss_one (ps_ret (pe_callB (cr_any rfl) (by rfl) T.z_any (by decide +kernel) (pa_cons (pe_lc (own := [("upper", 4)]) (g := (gName 4)) rfl sc_beneath_any.nd (pi_list (pv 3)) (blkOk_by (by kernel_rfl)) (fun _ _ _ _ _ => (pg_name (i := 4) sc_beneath_any.nd rfl (Or.inl rfl))) (fun _ _ _ _ _ => pts_nil) (fun _ _ _ _ _ => (Mt.pe T.clD (by exact m_Document_is_beneath T) (hr.mono (by decide)) (pv 0) (pa_cons (pv 1) (pa_cons (pv 4) pa_nil))))) pa_nil))))), ?_⟩
    obtain ⟨dx, t, e, u, as, dd⟩ := id d
    refine q_when (b := !w0) (et_is (et_test (ev_op (ev_var rfl) ev_c (rv_eq rfl))) (wayS_dec w0)) (fun q H1 e1 => ?_) fun q H1 e1 => ?_
    · have hw : w0 = false := by
        cases w0 with
        | false => rfl
        | true => cases q
      subst hw
      refine s_ret (ev_is (ev_op (x := optV (BM.upAt (BM.dds rows) p)) (ev_methV (ev_var rfl) (e1 _ _ dd.ob) (docF_no _ _ _ (by decide +kernel) (by decide +kernel) (by decide +kernel)) (ea_cons (ev_var rfl) ea_nil) fun H2 e2 => ⟨a, rows, p, rfl, d.mono (e1.trans e2), hp, rfl⟩) (ev_var rfl) (rv_isL (ex_l e1 hu) (by cases BM.upAt (BM.dds rows) p <;> rfl) (natV_flat us))) (congrArg V.bl (BM.yes_eq ?_).symm)) fun H2 e2 => k H2 (e1.trans e2)
      rw [inV_nat]
      exact exists_congr fun x => and_congr Iff.rfl BM.rel_str.symm
    · have hw : w0 = true := by
        cases w0 with
        | true => rfl
        | false => cases q
      subst hw
      have hb := el_bools (K := K) (σ := [some (.ref a), some (.int (p : Int)), some (.str (wayS true)), some (.ref b), none]) (H := H1) (a := b) (tl := tVar 3) (j := 4) (ws := [4]) (te := tMeth CD "is_beneath" (spDBen K CD) [] E0 (tVar 0) (tCons (tVar 1) (tCons (tVar 4) tNil))) (ps := us)
        (fun x => decide (x < p) && decide (p ≤ BM.endAt (BM.dds rows) x)) (ev_var rfl) (ex_l e1 hu) (by omega) (fun _ => rfl) (fun x H2 hx e2 => ev_methV (ev_var rfl) ((e1.trans e2) _ _ dd.ob) (docF_no _ _ _ (by decide +kernel) (by decide +kernel) (by decide +kernel)) (ea_cons (ev_var rfl) (ea_cons (ev_var rfl) ea_nil)) fun H3 e3 => ⟨a, rows, p, x, rfl, d.mono ((e1.trans e2).trans e3), hp, hul x hx, rfl⟩)
      refine s_ret (ev_is (ev_any' hb) (congrArg V.bl (BM.yes_eq ?_).symm)) fun H2 e2 => k H2 (e1.trans e2)
      rw [List.any_map, List.any_eq_true]
      refine exists_congr fun x => and_congr Iff.rfl ?_
      rw [BM.rel_any]
      show (decide (x < p) && decide (p ≤ BM.endAt (BM.dds rows) x)) = true ↔ _
      rw [Bool.and_eq_true, decide_eq_true_iff, decide_eq_true_iff]
      rfl
/-! ### told_at -/
def spTold (K : PySem.W.Frag) (CD CQ CS CA : Addr) : Sp := spP fun vs H P => ∃ (a b t : Addr) (x w : Nat) (rows : List DR) (qs : List QR) (ts : List Addr), vs = [.ref a, .ref b, .ref t, .int (x : Int)] ∧ DocOb K CD H a rows ∧ OkD rows ∧ QueOb K CQ CS CA H b qs w ∧ OkQ qs ∧ w < qs.length ∧ TabL H t qs.length 0 (Tb rows qs) ts ∧
  P = fun v H2 => ∃ p, v = .ref p ∧ H2 p = some (.lst (natV (Fb rows qs (fun z => z = x) w)))
theorem sc_told_at : FnScope ["document", "rest", "table", "part", "rows", "full", "step", "uppers", "one"] ["document", "rest", "table", "part"] (defScope s_told_at) := ⟨rfl, rfl, rfl, by decide +kernel, rfl, by decide +kernel, by decide +kernel⟩
theorem fn_told_at (T : Txt K mg CD CQ CS CA) : Fn P w K mg base "told_at" 6 ["document", "rest", "table", "part"] (spTold K CD CQ CS CA) := by
  refine Fn.of T.g_told_at sc_told_at (fun _ _ _ _ _ _ us hl => match us, hl with | [_, _, _, _], _ => rfl) (fun vs H Q E h => ?_) (fun f cdv A outer s H vs Q E hr h => ?_)
  · obtain ⟨P, ⟨a, b, t, x, w0, rows, qs, ts, rfl, _⟩, _⟩ := h
    rfl
  · obtain ⟨P', ⟨a, b, t, x, w0, rows, qs, ts, rfl, d, O, q, OQ, hw, ht, rfl⟩, k⟩ := h
    refine ⟨_, (pss_cons (ps_set (i := 4) sc_told_at.nd rfl (Or.inr rfl) (Mt.pe0 T.clQ (by exact m_Question_rows T) (hr.mono (by decide)) (pv 1)))
  (pss_cons (ps_set (i := 5) sc_told_at.nd rfl (Or.inl rfl) (pe_lst (pa_cons (pe_lc (own := [("one", 8)]) (g := (gName 8)) rfl sc_told_at.nd (pi_list (pe_ix ix_list (pv 2) pe_int (fun _ _ => rfl))) (blkOk_by (by kernel_rfl)) (fun _ _ _ _ _ => (pg_name (i := 8) sc_told_at.nd rfl (Or.inl rfl))) (fun _ _ _ _ _ => (pts_one (pt_cmpR op_eq (pv 8) (pv 3) (nomark _)))) (fun _ _ _ _ _ => (pv 8))) pa_nil)))
  (pss_cons (ps_for PassesOwn.never rfl (pi_range2 rfl T.z_range (pa_cons pe_int (pa_cons (Mt.pe0 T.clQ (by exact m_Question_many T) (hr.mono (by decide)) (pv 1)) pa_nil))) (pg_name (i := 6) sc_told_at.nd rfl (Or.inr rfl)) (pss_cons (ps_set (i := 7) sc_told_at.nd rfl (Or.inr rfl) (pe_ix ix_list (pv 5) (Mt.pe T.clQ (by exact m_Question_upper_of T) (hr.mono (by decide)) (pv 1) (pa_cons (pv 6) pa_nil)) (fun _ _ => rfl)))
  (pss_one (ps_expr (pe_bm PySem.F.plainAttrs_list PySem.F.slot_list_append PySem.F.type_list_append mt_append (pv 5) (pa_cons (pe_lc (own := [("one", 8)]) (g := (gName 8)) rfl sc_told_at.nd (pi_list (pe_ix ix_list (pv 2) (pv 6) (fun _ _ => rfl))) (blkOk_by (by kernel_rfl)) (fun _ _ _ _ _ => (pg_name (i := 8) sc_told_at.nd rfl (Or.inl rfl))) (fun _ _ _ _ _ => (pts_one (pt_val (Fn.pe (by exact fn_beneath_any T) (hr.mono (by decide)) (by rfl) (pa_cons (pv 0) (pa_cons (pv 8) (pa_cons (pe_ix (show IxR _ (rIxT K) from ix_tup) (pe_ix (show IxR _ (rIxL K) from ix_list) (pv 4) (pv 6) (fun _ _ => rfl)) pe_int (fun _ _ => rfl)) (pa_cons (pv 7) pa_nil)))))))) (fun _ _ _ _ _ => (pv 8))) pa_nil))))))
  (pss_one (ps_ret (pe_ix ix_list (pv 5) (Mt.pe0 T.clQ (by exact m_Question_wanted T) (hr.mono (by decide)) (pv 1)) (fun _ _ => rfl))))))), ?_⟩
    have hN := O.many
    have hM := OQ.many
    obtain ⟨dx, g, st, en, up, as, ss, dq⟩ := id q
    have hz : ∀ i, (Tb rows qs i).length ≤ 40000 := fun i => Nat.le_trans Tb_len (by omega)
    refine q_asgN (P := fun p H2 => H2 p = some (.lst (refsV as))) (en_meth (ev_var rfl) dq.ob (q_no _ _ _ _ _ (by decide +kernel)) ea_nil fun H2 e2 => ⟨b, qs, w0, dx, g, st, en, up, as, ss, rfl, dq.mono e2, rfl⟩) fun rw' H1 h1 e1 hrw => ?_
    obtain ⟨t0, ht0, ht0b⟩ := ht.row (Nat.zero_le _) OQ.pos
    have hl := el_filt (K := K) (σ := [some (.ref a), some (.ref b), some (.ref t), some (.int (x : Int)), some (.ref rw'), none, none, none, none]) (H := H1) (a := t0) (tl := tOp (rIxL K) (tVar 2) (tC (.int 0))) (j := 8) (ws := [8]) (t := tTest (tOp rEq (tVar 8) (tVar 3))) (ps := Tb rows qs 0)
      (fun (p : Nat) => decide (V.int (p : Int) = V.int (x : Int))) (ev_op (ev_var rfl) ev_c (rv_ixL (sq_of (e1 _ _ ht.ob)) (atI_nat (j := 0) (refs_at ht0)))) (sq_of (e1 _ _ ht0b)) (hz 0) (fun _ => rfl) (fun _ => rfl) (fun p H2 hp e2 => et_test (ev_op (ev_var rfl) (ev_var rfl) (rv_eq rfl)))
    have hfin : (Tb rows qs 0).filter (fun (p : Nat) => decide (V.int (p : Int) = V.int (x : Int))) = Fb rows qs (fun z => z = x) 0 := by
      unfold Tb Fb
      rw [BM.tbl_filter]
      refine BM.tbl_ext fun p hp => ?_
      rw [BM.full_zero (BM.queT_ok OQ.good)]
      refine and_congr Iff.rfl ?_
      rw [decide_eq_true_iff]
      constructor
      · intro h
        injection h with h
        omega
      · intro h
        rw [h]
    rw [hfin] at hl
    refine q_asgN (en_lst1 hl) fun fl H2 h2 e2 ⟨c0, hf1, hf2, hf3⟩ => ?_
    have e12 := e1.trans e2
    refine q_forI (ei_range2 (i := 1) (j := ((qs.length : Nat) : Int)) ev_c (ev_methV (ev_var rfl) (e12 _ _ dq.ob) (q_no _ _ _ _ _ (by decide +kernel)) ea_nil fun H3 e3 => ⟨b, qs, w0, rfl, q.mono (e12.trans e3), rfl⟩) (by omega)) walk_range (fun i σ' H' => ∃ (v6 v7 v8 : Option V) (fs : List Addr), σ' = [some (.ref a), some (.ref b), some (.ref t), some (.int (x : Int)), some (.ref rw'), some (.ref fl), v6, v7, v8] ∧ Ex H1 H' ∧ TabL H' fl (i + 1) 0 (Fb rows qs (fun z => z = x)) fs)
      (fun H3 e3 => ⟨none, none, none, [c0], rfl, e2.trans e3, e3 _ _ hf1, rfl, fun l c h1 h2 => by
        cases l with
        | zero =>
          have : c0 = c := by simpa using h2
          rw [← this]
          exact e3 _ _ hf2
        | succ l => simp at h2⟩) (fun _ _ _ _ _ => trivial) ?_ ?_
    · rintro i y σ' H' H'' hi ⟨v6, v7, v8, fs, rfl, e, hT⟩ ⟨rfl, hy⟩
      have hy : y = .int ((i + 1 : Nat) : Int) := by
        rw [hy]
        exact congrArg V.int (by omega)
      subst hy
      have hs : i + 1 < qs.length := by omega
      obtain ⟨u, hup, hui⟩ : ∃ u, BM.upAt (BM.qds qs) (i + 1) = some u ∧ u < i + 1 := by
        rcases up_opt OQ hs with h | h
        · omega
        · exact h
      have e13 := e1.trans e
      obtain ⟨fu, hfu, hfub⟩ := hT.row (Nat.zero_le _) hui
      refine q_asg (ev_op (z := .ref fu) (ev_var rfl) (ev_is (ev_methV (ev_var rfl) (e13 _ _ dq.ob) (q_no _ _ _ _ _ (by decide +kernel)) (ea_cons (ev_var rfl) ea_nil) fun H2 e2 => ⟨b, qs, w0, i + 1, rfl, q.mono (e13.trans e2), hs, rfl⟩) (by rw [hup]; rfl : optV (BM.upAt (BM.qds qs) (i + 1)) = .int (u : Int))) (rv_ixL (sq_of hT.ob) (atI_nat (refs_at hfu)))) fun H3 e3 => ?_
      obtain ⟨r, hr'⟩ : ∃ r, qs[i + 1]? = some r := ⟨qs[i + 1], List.getElem?_eq_getElem hs⟩
      obtain ⟨ti, hti, htib⟩ := ht.row (Nat.zero_le _) hs
      obtain ⟨ra, hra, hraS⟩ := (dq.mono (e13.trans e3)).tups.get (i := i + 1) (r := rowQ r) (by rw [List.getElem?_map, hr']; rfl)
      have hl := el_filt (K := K) (σ := [some (.ref a), some (.ref b), some (.ref t), some (.int (x : Int)), some (.ref rw'), some (.ref fl), some (.int ((i + 1 : Nat) : Int)), some (.ref fu), v8]) (H := H3) (a := ti) (tl := tOp (rIxL K) (tVar 2) (tVar 6)) (j := 8) (ws := [8])
        (t := tB (tCall (spBAny K CD) [] E0 (tCons (tVar 0) (tCons (tVar 8) (tCons (tOp (rIxT K) (tOp (rIxL K) (tVar 4) (tVar 6)) (tC (.int 0))) (tCons (tVar 7) tNil)))))) (ps := Tb rows qs (i + 1))
        (fun (p : Nat) => BM.yes (∃ z ∈ Fb rows qs (fun z => z = x) u, BM.Rel (BM.dds rows) r.1 z p)) (ev_op (ev_var rfl) (ev_var rfl) (rv_ixL (sq_of ((e13.trans e3) _ _ ht.ob)) (atI_nat (refs_at hti)))) (sq_of ((e13.trans e3) _ _ htib)) (hz _) (fun _ => rfl) (fun _ => rfl) (fun p H4 hp e4 =>
          et_B (ev_callV (ea_cons (ev_var rfl) (ea_cons (ev_var rfl) (ea_cons (ev_op (ev_op (ev_var rfl) (ev_var rfl) (rv_ixL (sq_of ((e.trans (e3.trans e4)) _ _ hrw)) (atI_nat (refs_at hra)))) ev_c (rv_ixT (i := 0) (ex_t e4 hraS) rfl)) (ea_cons (ev_var rfl) ea_nil)))) fun H5 e5 => ⟨a, fu, rows, p, r.1, _, rfl, d.mono (e13.trans (e3.trans (e4.trans e5))), Tb_lt hp, sq_of ((e3.trans (e4.trans e5)) _ _ hfub), fun z hz => Fb_lt hz, Nat.le_trans Fb_len (by omega), rfl⟩))
      have hfin : (Tb rows qs (i + 1)).filter (fun (p : Nat) => BM.yes (∃ z ∈ Fb rows qs (fun z => z = x) u, BM.Rel (BM.dds rows) r.1 z p)) = Fb rows qs (fun z => z = x) (i + 1) := by
        unfold Tb
        rw [BM.tbl_filter]
        conv => rhs; unfold Fb
        refine BM.tbl_ext fun p hp => ?_
        rw [BM.full_step (BM.queT_ok OQ.good) (s := i + 1) (u := u) hs hup]
        refine and_congr Iff.rfl ?_
        rw [BM.yes_iff, que_way hr']
        constructor
        · rintro ⟨z, hz, hR⟩
          exact ⟨z, (BM.mem_tbl.mp hz).2, hR⟩
        · rintro ⟨z, hF, hR⟩
          exact ⟨z, BM.mem_tbl.mpr ⟨hF.lt, hF⟩, hR⟩
      rw [hfin] at hl
      refine s_appL (e3 _ _ hT.ob) (ev_var rfl) hl (by rw [List.length_map, hT.len]; omega) fun p H4 hp e4 h4 => ?_
      have hpt : p ≠ fl := fun z => by
        rw [z, e3 _ _ hT.ob] at hp
        cases hp
      exact ⟨_, _, _, fs ++ [p], rfl, Ex.mut (e.trans (e3.trans e4)) h2, (hT.mono (e3.trans e4)).snoc h4 hpt⟩
    · rintro σ' H' ⟨v6, v7, v8, fs, rfl, e, hT⟩
      rw [show (((qs.length : Nat) : Int) - 1).toNat + 1 = qs.length by omega] at hT
      obtain ⟨fu, hfu, hfub⟩ := hT.row (Nat.zero_le _) hw
      exact s_ret (ev_op (z := .ref fu) (ev_var rfl) (ev_methV (ev_var rfl) ((e1.trans e) _ _ dq.ob) (q_no _ _ _ _ _ (by decide +kernel)) ea_nil fun H3 e3 => ⟨b, qs, w0, rfl, q.mono ((e1.trans e).trans e3), rfl⟩) (rv_ixL (sq_of hT.ob) (atI_nat (refs_at hfu)))) fun H3 e3 => k _ H3 ((e1.trans e).trans e3) ⟨fu, rfl, e3 _ _ hfub⟩
/-! ### through -/
structure SetK (N : Nat) (P : Nat → Prop) (ks : List Nat) : Prop where
  nd : ks.Nodup
  mem : ∀ k, k ∈ ks ↔ k < N ∧ P k
theorem SetK.add {N : Nat} {P P' : Nat → Prop} {ks : List Nat} {m : Nat} (h : SetK N P ks) (hm : m < N) (hP : ∀ k, k < N → (P' k ↔ P k ∨ k = m)) : SetK N P' (addK ks m) := ⟨nodup_addK h.nd, fun k => by
  rw [mem_addK, h.mem k]
  constructor
  · rintro (⟨h1, h2⟩ | h)
    · exact ⟨h1, (hP k h1).mpr (.inl h2)⟩
    · exact ⟨h ▸ hm, (hP k (h ▸ hm)).mpr (.inr h)⟩
  · rintro ⟨h1, h2⟩
    exact ((hP k h1).mp h2).imp (fun z => ⟨h1, z⟩) id⟩
theorem SetK.len {N : Nat} {P : Nat → Prop} {ks : List Nat} (h : SetK N P ks) : ks.length ≤ N := len_of_mem h.nd h.mem
theorem SetK.congr {N : Nat} {P P' : Nat → Prop} {ks : List Nat} (h : SetK N P ks) (hP : ∀ k, k < N → (P' k ↔ P k)) : SetK N P' ks := ⟨h.nd, fun k => by
  rw [h.mem k]
  exact and_congr_right fun hk => (hP k hk).symm⟩
theorem dSet_keys (ks : List Nat) : (dSet ks).map (·.1) = (BM.natInts ks).map Sum.inl := by
  unfold dSet dkv BM.natInts
  rw [List.map_map, List.map_map]
  rfl
theorem ints_V (ks : List Nat) : (BM.natInts ks).map V.int = natV ks := by
  unfold BM.natInts natV
  rw [List.map_map]
  rfl
theorem el_sortD {σ : L2.St} {H : Hp} {ta : TE} {a : Addr} {N : Nat} {P : Nat → Prop} {ks : List Nat} (h : Ev ta σ H (.ref a)) (hd : H a = some (.dK (dSet ks))) (hS : SetK N P ks) (hN : N < 64) :
    EvL (tCB (fun xs H Q => ∃ (a : Addr) (kvs : List (Key × V)) (ks : List Int), xs = [.ref a] ∧ Rd H a (.dK kvs) ∧ kvs.map (·.1) = ks.map Sum.inl ∧ ks.length < 64 ∧
      ∀ (ys : List Int) (p : Addr), ys.Perm ks → ys.Pairwise (· ≤ ·) → H p = none → Q (.ref p) (upd H p (.lst (ys.map V.int)))) (tCons ta tNil)) σ H (natV (BM.tbl N P)) := fun H1 e Q q =>
  h H1 e _ fun H2 e2 => ⟨a, dSet ks, BM.natInts ks, rfl, .inl ((e.trans e2) _ _ hd), dSet_keys ks, by rw [BM.ints_len]; have := hS.len; omega, fun ys p h1 h2 hp => by
    rw [BM.sorted_ints h1 h2 hS.nd hS.mem, ints_V]
    exact q p _ (fresh_back e2 hp) (e2.trans (Ex.new hp)) upd_same⟩
def spThr (K : PySem.W.Frag) (CD CQ CS CA : Addr) : Sp := spN fun vs H P => ∃ (a b c : Addr) (w : Nat) (rows : List DR) (qs : List QR) (kp : List Nat), vs = [.ref a, .ref c, .ref b] ∧ DocOb K CD H a rows ∧ OkD rows ∧ rows.length < 64 ∧ QueOb K CQ CS CA H b qs w ∧ OkQ qs ∧ w < qs.length ∧ SqL K H c (natV kp) ∧ (∀ p ∈ kp, p < rows.length) ∧
  P = fun p H2 => H2 p = some (.lst (natV (BM.tbl rows.length fun z => ∃ x ∈ kp, BM.Full (BM.docT rows) (BM.queT qs) (fun y => y = x) w z)))
theorem sc_through : FnScope ["document", "kept", "rest", "part", "table", "found", "one"] ["document", "kept", "rest"] (defScope s_through) := ⟨rfl, rfl, rfl, by decide +kernel, rfl, by decide +kernel, by decide +kernel⟩
theorem fn_through (T : Txt K mg CD CQ CS CA) : Fn P w K mg base "through" 8 ["document", "kept", "rest"] (spThr K CD CQ CS CA) := by
  refine Fn.of T.g_through sc_through (fun _ _ _ _ _ _ us hl => match us, hl with | [_, _, _], _ => rfl) (fun vs H Q E h => ?_) (fun f cdv A outer s H vs Q E hr h => ?_)
  · obtain ⟨P, ⟨a, b, c, w0, rows, qs, kp, rfl, _⟩, _⟩ := h
    rfl
  · obtain ⟨P', ⟨a, b, c, w0, rows, qs, kp, rfl, d, O, h64, q, OQ, hw, hkp, hkl, rfl⟩, k⟩ := h
    refine ⟨_, (pss_cons (ps_for PassesOwn.never rfl (pi_list (pv 1)) (pg_name (i := 3) sc_through.nd rfl (Or.inl rfl)) (pss_one (ps_expr (Mt.pe T.clD (by exact m_Document_label_of T) (hr.mono (by decide)) (pv 0) (pa_cons (pv 3) pa_nil)))))
  (pss_cons (ps_set (i := 4) sc_through.nd rfl (Or.inl rfl) (Fn.pe (by exact fn_down_table T) (hr.mono (by decide)) (by rfl) (pa_cons (pv 0) (pa_cons (pv 2) pa_nil))))
  (pss_cons (ps_set (i := 5) sc_through.nd rfl (Or.inl rfl) pe_dnewK)
  (pss_cons (ps_for PassesOwn.never rfl (pi_list (pv 1)) (pg_name (i := 3) sc_through.nd rfl (Or.inl rfl)) (pss_one (ps_for PassesOwn.never rfl (pi_list (Fn.pe (by exact fn_told_at T) (hr.mono (by decide)) (by rfl) (pa_cons (pv 0) (pa_cons (pv 2) (pa_cons (pv 4) (pa_cons (pv 3) pa_nil)))))) (pg_name (i := 6) sc_through.nd rfl (Or.inl rfl)) (pss_one (ps_dput (hu_of hr) (pv 5) (pv 6) pe_bl rfl)))))
  (pss_one (ps_ret (pe_callB (call_sortedDI rfl) (by rfl) T.z_sorted (by decide +kernel) (pa_cons (pv 5) pa_nil)))))))), ?_⟩
    have hN := O.many
    obtain ⟨dx, t, e, u, as, dd⟩ := id d
    refine q_forI (ei_list (K := K) (p := c) (xs := natV kp) (ev_var rfl) hkp) walk_list (fun i σ' H' => ∃ (v3 : Option V), σ' = [some (.ref a), some (.ref c), some (.ref b), v3, none, none, none] ∧ Ex H H') (fun H1 e1 => ⟨none, rfl, e1⟩) (fun i σ' H' _ ⟨_, _, e⟩ => ex_l e hkp) ?_ ?_
    · rintro i y σ' H' H'' hi ⟨v3, rfl, e⟩ ⟨rfl, hy⟩
      obtain ⟨p, hp, rfl⟩ := natV_back hy
      have hpl := hkl p (List.mem_of_getElem? hp)
      exact s_drop (ev_methV (ev_var rfl) (e _ _ dd.ob) (docF_no _ _ _ (by decide +kernel) (by decide +kernel) (by decide +kernel)) (ea_cons (ev_var rfl) ea_nil) fun H2 e2 => ⟨a, rows, p, rows[p], rfl, d.mono (e.trans e2), List.getElem?_eq_getElem hpl, rfl⟩) fun H2 e2 => ⟨_, rfl, e.trans e2⟩
    · rintro σ' H' ⟨v3, rfl, e1⟩
      refine q_asgN (P := fun p H2 => ∃ ts, TabL H2 p qs.length 0 (Tb rows qs) ts) (en_call (ea_cons (ev_var rfl) (ea_cons (ev_var rfl) ea_nil)) fun H2 e2 => ⟨a, b, w0, rows, qs, rfl, d.mono (e1.trans e2), O, q.mono (e1.trans e2), OQ, rfl⟩) fun tt H1 h1 e2 ⟨ts, hT⟩ => ?_
      refine q_asgN en_dnewK fun D H2 h2 e3 hD => ?_
      have e02 : Ex H H1 := e1.trans e2
      refine q_forI (ei_list (K := K) (p := c) (xs := natV kp) (ev_var rfl) (ex_l (e02.trans e3) hkp)) walk_list (fun i σ' H' => ∃ (v3 v6 : Option V) (ks : List Nat), σ' = [some (.ref a), some (.ref c), some (.ref b), v3, some (.ref tt), some (.ref D), v6] ∧ Ex H1 H' ∧ H' D = some (.dK (dSet ks)) ∧ SetK rows.length (fun z => ∃ x ∈ kp.take i, BM.Full (BM.docT rows) (BM.queT qs) (fun y => y = x) w0 z) ks)
        (fun H3 e4 => ⟨v3, none, [], rfl, e3.trans e4, e4 _ _ hD, List.nodup_nil, fun k => by simp⟩) (fun i σ' H' _ ⟨_, _, _, _, e, _⟩ => ex_l (e02.trans e) hkp) ?_ ?_
      · rintro i y σ' H' H'' hi ⟨v3, v6, ks, rfl, e4, hk, hS⟩ ⟨rfl, hy⟩
        obtain ⟨x, hx, rfl⟩ := natV_back hy
        have hxl := hkl x (List.mem_of_getElem? hx)
        have e04 := e02.trans e4
        refine s_forPL (xs := natV (Fb rows qs (fun z => z = x) w0)) (ep_call (ea_cons (ev_var rfl) (ea_cons (ev_var rfl) (ea_cons (ev_var rfl) (ea_cons (ev_var rfl) ea_nil)))) fun H3 e5 => ⟨a, b, tt, x, w0, rows, qs, ts, rfl, d.mono (e04.trans e5), O, q.mono (e04.trans e5), OQ, hw, hT.mono (e4.trans e5), rfl⟩)
          (fun pl j σ3 H4 => ∃ (v6 : Option V) (ks2 : List Nat), σ3 = [some (.ref a), some (.ref c), some (.ref b), some (.int (x : Int)), some (.ref tt), some (.ref D), v6] ∧ Ex H1 H4 ∧ H4 D = some (.dK (dSet ks2)) ∧ H4 pl = some (.lst (natV (Fb rows qs (fun z => z = x) w0))) ∧ SetK rows.length (fun z => (∃ x ∈ kp.take i, BM.Full (BM.docT rows) (BM.queT qs) (fun y => y = x) w0 z) ∨ z ∈ (Fb rows qs (fun z => z = x) w0).take j) ks2)
          (fun pl H3 e5 hpl => ⟨v6, ks, rfl, e4.trans e5, e5 _ _ hk, hpl, hS.congr fun z _ => by simp⟩) (fun pl j σ3 H4 _ ⟨_, _, _, _, _, h, _⟩ => sq_of h) ?_ ?_
        · rintro pl j y σ3 H4 hy ⟨v6, ks2, rfl, e5, hk2, hpl, hS2⟩
          obtain ⟨m, hm, rfl⟩ := natV_back hy
          have hml := Fb_lt (List.mem_of_getElem? hm)
          have hne : pl ≠ D := fun z => by
            rw [z, hk2] at hpl
            cases hpl
          refine s_dput (k := kI m) ev_c (ev_var rfl) (ev_var rfl) hk2 (by rw [show (dSet ks2).length = ks2.length from dkv_len]; have := hS2.len; omega) fun H5 e6 => ?_
          rw [show putK (dSet ks2) (kI m) (.bl true) = dSet (addK ks2 m) from dkv_put kI_inj]
          exact ⟨some (.int (m : Int)), addK ks2 m, rfl, Ex.mut (e5.trans e6) h2, upd_same, by rw [upd_ne hne]; exact e6 _ _ hpl, hS2.add hml fun z _ => by rw [take_succ_mem hm, or_assoc]⟩
        · rintro pl σ3 H4 ⟨v6, ks2, rfl, e5, hk2, hpl, hS2⟩
          rw [natV_len, List.take_length] at hS2
          refine ⟨_, v6, ks2, rfl, e5, hk2, hS2.congr fun z hz => ?_⟩
          constructor
          · rintro ⟨y, hy, hF⟩
            rcases (take_succ_mem hx).mp hy with h | h
            · exact .inl ⟨y, h, hF⟩
            · exact .inr (BM.mem_tbl.mpr ⟨hz, h ▸ hF⟩)
          · rintro (⟨y, hy, hF⟩ | h)
            · exact ⟨y, (take_succ_mem hx).mpr (.inl hy), hF⟩
            · exact ⟨x, (take_succ_mem hx).mpr (.inr rfl), (BM.mem_tbl.mp h).2⟩
      · rintro σ' H' ⟨v3, v6, ks, rfl, e4, hk, hS⟩
        rw [natV_len, List.take_length] at hS
        exact s_retL (el_sortD (ev_var rfl) hk hS h64) fun p H3 hp e5 h5 => k p H3 (fresh_back (e02.trans e4) hp) ((e02.trans e4).trans e5) h5
end
end Bo
set_option Elab.async false
set_option linter.all false
set_option maxRecDepth 100000
set_option maxHeartbeats 4000000
namespace Bo
open PySem PySem.Spec PyProof.Rows L2 Evl BK BL
section
variable {P : Program} {w : World} {K : PySem.W.Frag} {mg : Str → Option Value} {base : Heap} {CD CQ CS CA : Addr}
section
variable {σ : L2.St} {H : Hp} {te td ty tv ta tb : TE} {D : Ends} {tz tu tw : TS} {tg : TA} {t : TT}
theorem el_slN {tl th : TO} {xs : List V} {lo hi : Option Int} (h : EvL te σ H xs) (h1 : EvO tl σ H lo) (h2 : EvO th σ H hi) : EvL (tSl (rSlL K) te tl th) σ H (cutV xs lo hi) := fun H1 e _ q =>
  h H1 e _ fun a H2 ha e2 hx => h1 H2 (e.trans e2) _ fun H3 e3 => h2 H3 ((e.trans e2).trans e3) _ fun H4 e4 =>
    ⟨a, xs, rfl, sq_of ((e3.trans e4) _ _ hx), fun p hp => q p _ (fresh_back ((e2.trans e3).trans e4) hp) (((e2.trans e3).trans e4).trans (Ex.new hp)) upd_same⟩
theorem el_cat3 {b : Addr} {xs ys : List V} (ha : EvL ta σ H xs) (hb : Ev tb σ H (.ref b)) (h2 : H b = some (.lst ys)) (hz : xs.length + ys.length ≤ 100000) : EvL (tOp rCat ta tb) σ H (xs ++ ys) := fun H1 e Q q =>
  ha H1 e _ fun a H2 _ e2 h1 => hb H2 (e.trans e2) _ fun H3 e3 => ⟨a, b, xs, ys, rfl, rfl, e3 a _ h1, ((e.trans e2).trans e3) b _ h2, sz_of hz, fun p hp => q p _ (fresh_back (e2.trans e3) hp) ((e2.trans e3).trans (Ex.new hp)) upd_same⟩
theorem en_tup2 {xs : List V} {v : V} (h : EvL ta σ H xs) (hb : Ev tb σ H v) : EvN (tTup (tCons ta (tCons tb tNil))) σ H (fun p H2 => ∃ l, H2 p = some (.tup [.ref l, v]) ∧ H2 l = some (.lst xs)) := fun H1 e Q q =>
  h H1 e _ fun c H2 hc e2 hx => hb H2 (e.trans e2) _ fun H3 e3 => ⟨sz_of (by show 2 ≤ 100000; omega), fun p hp => q p _ (fresh_back (e2.trans e3) hp) ((e2.trans e3).trans (Ex.new hp)) ⟨c, upd_same, Ex.new hp _ _ (e3 _ _ hx)⟩⟩
/-- a comprehension over a new list -/
theorem en_lcON {xs : List V} {tl : TE} {g : TG} {te : TE} {ws : List Nat} {P : Addr → Hp → Prop} (hi : EvL tl σ H xs) (hc : ∀ p H1, H p = none → Ex H H1 → H1 p = some (.lst xs) → EvN (tLc (fun _ H R => R (Itl K p) H) g tYes te ws) σ H1 P) : EvN (tLc (iList K tl) g tYes te ws) σ H P := fun H0 e Q q =>
  hi H0 e _ fun p H1 hp e1 hl => ⟨p, rfl, ⟨xs, sq_of hl⟩, hc p H1 (fresh_back e hp) (e.trans e1) hl H1 (Ex.refl H1) Q fun r H2 hr e2 hP => q r H2 (fresh_back e1 hr) (e1.trans e2) hP⟩
end
theorem Tups.append {H : Hp} {as bs : List Addr} {rs qs : List (List V)} (a : Tups K H as rs) (b : Tups K H bs qs) : Tups K H (as ++ bs) (rs ++ qs) := by
  refine ⟨by rw [List.length_append, List.length_append, a.len, b.len], fun i c r h1 h2 => ?_⟩
  by_cases hi : i < as.length
  · rw [List.getElem?_append_left hi] at h1
    rw [List.getElem?_append_left (by rw [← a.len]; exact hi)] at h2
    exact a.at_ i c r h1 h2
  · rw [List.getElem?_append_right (by omega)] at h1
    rw [List.getElem?_append_right (by rw [← a.len]; omega), ← a.len] at h2
    exact b.at_ _ c r h1 h2
theorem Tups.take {H : Hp} {as : List Addr} {rs : List (List V)} (a : Tups K H as rs) (n : Nat) : Tups K H (as.take n) (rs.take n) := by
  refine ⟨by rw [List.length_take, List.length_take, a.len], fun i c r h1 h2 => ?_⟩
  by_cases hi : i < n
  · rw [List.getElem?_take_of_lt hi] at h1 h2
    exact a.at_ i c r h1 h2
  · rw [List.getElem?_eq_none (by rw [List.length_take]; omega)] at h1
    cases h1
theorem Tups.drop {H : Hp} {as : List Addr} {rs : List (List V)} (a : Tups K H as rs) (n : Nat) : Tups K H (as.drop n) (rs.drop n) := by
  refine ⟨by rw [List.length_drop, List.length_drop, a.len], fun i c r h1 h2 => ?_⟩
  rw [List.getElem?_drop] at h1 h2
  exact a.at_ _ c r h1 h2
theorem laid_rowQ (V R : List QR) (w : Nat) : (BM.laidRows V R w).map rowQ = (V.map rowQ).take (BM.behind V w) ++ ((R.drop 1).map (BM.shift (BM.dep (BM.qds V) w - 1))).map rowQ ++ (V.map rowQ).drop (BM.behind V w) := by
  unfold BM.laidRows
  simp only [List.map_append, List.map_take, List.map_drop]
theorem refs_take (as : List Addr) (n : Nat) : refsV (as.take n) = (refsV as).take n := List.map_take
theorem refs_drop (as : List Addr) (n : Nat) : refsV (as.drop n) = (refsV as).drop n := List.map_drop
theorem refs_append (as bs : List Addr) : refsV (as ++ bs) = refsV as ++ refsV bs := List.map_append
/-! ### joined_rows -/
def spJoin (K : PySem.W.Frag) (CQ CS CA : Addr) : Sp := spN fun vs H P => ∃ (a b : Addr) (w g : Nat) (V R : List QR), vs = [.ref a, .ref b] ∧ QueOb K CQ CS CA H a V w ∧ OkQ V ∧ w < V.length ∧ QueOb K CQ CS CA H b R g ∧ OkQ R ∧
  P = fun p H2 => ∃ l as, H2 p = some (.tup [.ref l, .int ((BM.behind V w : Nat) : Int)]) ∧ H2 l = some (.lst (refsV as)) ∧ Tups K H2 as ((BM.laidRows V R w).map rowQ)
theorem sc_joined_rows : FnScope ["view", "rest", "behind", "depth", "more", "way", "label", "deep"] ["view", "rest"] (defScope s_joined_rows) := ⟨rfl, rfl, rfl, by decide +kernel, rfl, by decide +kernel, by decide +kernel⟩
theorem fn_joined_rows (T : Txt K mg CD CQ CS CA) : Fn P w K mg base "joined_rows" 5 ["view", "rest"] (spJoin K CQ CS CA) := by
  refine Fn.of T.g_joined_rows sc_joined_rows (fun _ _ _ _ _ _ us hl => match us, hl with | [_, _], _ => rfl) (fun vs H Q E h => ?_) (fun f cdv A outer s H vs Q E hr h => ?_)
  · obtain ⟨P, ⟨a, b, w0, g0, Vs, Rs, rfl, _⟩, _⟩ := h
    rfl
  · obtain ⟨P', ⟨a, b, w0, g0, Vs, Rs, rfl, qa, OV, hw, qb, OR, rfl⟩, k⟩ := h
    refine ⟨_, (pss_cons (ps_set (i := 2) sc_joined_rows.nd rfl (Or.inl rfl) (pe_op op_add (Mt.pe T.clQ (by exact m_Question_end_of T) (hr.mono (by decide)) (pv 0) (pa_cons (Mt.pe0 T.clQ (by exact m_Question_wanted T) (hr.mono (by decide)) (pv 0)) pa_nil)) pe_int))
  (pss_cons (ps_set (i := 3) sc_joined_rows.nd rfl (Or.inr rfl) (Mt.pe T.clQ (by exact m_Question_depth_of T) (hr.mono (by decide)) (pv 0) (pa_cons (Mt.pe0 T.clQ (by exact m_Question_wanted T) (hr.mono (by decide)) (pv 0)) pa_nil)))
  (pss_cons (ps_setLc (i := 4) (own := [("way", 5), ("label", 6), ("deep", 7)]) (g := (gTup K 3 (gCons (gName 5) (gCons (gName 6) (gCons (gName 7) gNil))))) rfl sc_joined_rows.nd rfl rfl (sw_true rfl rfl rfl (by decide +kernel)) (pi_list (pe_slice sl_list (Mt.pe0 T.clQ (by exact m_Question_rows T) (hr.mono (by decide)) (pv 1)) (po_some pe_int) po_none)) (blkOk_by (by kernel_rfl)) (fun _ _ _ _ _ => (pg_tup rfl (pgs_cons (pg_name (i := 5) sc_joined_rows.nd rfl (Or.inl rfl)) (pgs_cons (pg_name (i := 6) sc_joined_rows.nd rfl (Or.inl rfl)) (pgs_cons (pg_name (i := 7) sc_joined_rows.nd rfl (Or.inl rfl)) pgs_nil))))) (fun _ _ _ _ _ => pts_nil) (fun _ _ _ _ _ => (pe_tup (pa_cons (pv 5) (pa_cons (pv 6) (pa_cons (pe_op op_sub (pe_op op_add (pv 7) (pv 3)) pe_int) pa_nil))))))
  (pss_one (ps_ret (pe_tup (pa_cons (pe_op op_cat (pe_op op_cat (pe_slice sl_list (Mt.pe0 T.clQ (by exact m_Question_rows T) (hr.mono (by decide)) (pv 0)) po_none (po_some (pv 2))) (pv 4)) (pe_slice sl_list (Mt.pe0 T.clQ (by exact m_Question_rows T) (hr.mono (by decide)) (pv 0)) (po_some (pv 2)) po_none)) (pa_cons (pv 2) pa_nil)))))))), ?_⟩
    have hVm := OV.many
    have hRm := OR.many
    obtain ⟨dx, g, st, en, up, as, ss, dq⟩ := id qa
    obtain ⟨dx2, g2, st2, en2, up2, as2, ss2, dq2⟩ := id qb
    have hwd : w0 < (BM.qds Vs).length := by rw [BM.qds_len]; exact hw
    have hla : as.length = Vs.length := dq.many
    have hlb : as2.length = Rs.length := dq2.many
    obtain ⟨r, hr'⟩ : ∃ r, Vs[w0]? = some r := ⟨Vs[w0], List.getElem?_eq_getElem hw⟩
    have hdw : BM.dep (BM.qds Vs) w0 = r.2.2 := BM.qds_dep hr'
    have h1d := OV.good.one_le hwd
    have hWant : ∀ {σ : L2.St} {H1 : Hp} {E : XK}, σ[0]? = some (some (.ref a)) → Ex H H1 → Ev (tMeth CQ "wanted" (spQWanted K CQ CS CA) [] E (tVar 0) tNil) σ H1 (.int (w0 : Int)) := fun hσ e => ev_methV (ev_var hσ) (e _ _ dq.ob) (q_no _ _ _ _ _ (by decide +kernel)) ea_nil fun H2 e2 => ⟨a, Vs, w0, rfl, qa.mono (e.trans e2), rfl⟩
    refine q_asg (ev_op (ev_methV (ev_var rfl) dq.ob (q_no _ _ _ _ _ (by decide +kernel)) (ea_cons (hWant rfl (Ex.refl H)) ea_nil) fun H2 e2 => ⟨a, Vs, w0, w0, rfl, qa.mono e2, hw, rfl⟩) ev_c rv_I0) fun H1 e1 => ?_
    refine q_asg (ev_methV (ev_var rfl) (e1 _ _ dq.ob) (q_no _ _ _ _ _ (by decide +kernel)) (ea_cons (hWant rfl e1) ea_nil) fun H2 e2 => ⟨a, Vs, w0, w0, r, rfl, qa.mono (e1.trans e2), hr', rfl⟩) fun H2 e2 => ?_
    have e12 := e1.trans e2
    have hmore := en_lcON (K := K) (σ := [some (.ref a), some (.ref b), some (.int (((BM.endAt (BM.qds Vs) w0 : Nat) : Int) + 1)), some (.int ((r.2.2 : Nat) : Int)), none, none, none, none]) (H := H2) (tl := tSl (rSlL K) (tMeth CQ "rows" (spQRows K CQ CS CA) [] E0 (tVar 1) tNil) (tPart (tC (.int 1))) tNoPart)
      (g := gTup K 3 (gCons (gName 5) (gCons (gName 6) (gCons (gName 7) gNil)))) (te := tTup (tCons (tVar 5) (tCons (tVar 6) (tCons (tOp (rI0 fun i j => .int (i - j)) (tOp (rI0 fun i j => .int (i + j)) (tVar 7) (tVar 3)) (tC (.int 1))) tNil)))) (ws := [5, 6, 7])
      (P := fun p H3 => ∃ ms, H3 p = some (.lst (refsV ms)) ∧ Tups K H3 ms (((Rs.drop 1).map (BM.shift (BM.dep (BM.qds Vs) w0 - 1))).map rowQ))
      (el_slN (en_meth (P := fun p H2 => H2 p = some (.lst (refsV as2))) (ev_var rfl) (e12 _ _ dq2.ob) (q_no _ _ _ _ _ (by decide +kernel)) ea_nil fun H3 e3 => ⟨b, Rs, g0, dx2, g2, st2, en2, up2, as2, ss2, rfl, dq2.mono (e12.trans e3), rfl⟩) (eo_some ev_c) eo_none) fun pl H3 hpl e3 hl3 => by
        have hcut : cutV (refsV as2) (some 1) none = refsV (as2.drop 1) := by
          rw [refs_drop]
          exact cut_from _ 1
        rw [hcut] at hl3
        have hlen : (as2.drop 1).length = Rs.length - 1 := by rw [List.length_drop, hlb]
        have d3 := dq2.mono (e12.trans e3)
        refine evN_imp (en_lcO (n := Rs.length - 1) (S := fun i o => ∃ r', Rs[i + 1]? = some r' ∧ o = .tup (rowQ (BM.shift (BM.dep (BM.qds Vs) w0 - 1) r'))) (J := Itl K pl) (G := fun H => SqL K H pl (refsV (as2.drop 1))) (Y := YAt (refsV (as2.drop 1))) (by omega) (fun H1 e R r => r H1 (Ex.refl H1)) (by
            have := walk_list (K := K) (a := pl) (xs := refsV (as2.drop 1))
            rw [List.length_map, hlen] at this
            exact this) (fun H1 e => sq_of (e _ _ hl3)) (fun i y H6 H7 hi e6 hy => by
          obtain ⟨rfl, hy⟩ := hy
          obtain ⟨c, hc, rfl⟩ := refs_back hy
          rw [List.getElem?_drop, Nat.add_comm] at hc
          have hi' : i + 1 < Rs.length := by omega
          have hrow := (d3.mono e6).tups.at_ (i + 1) c _ hc (rowq_at hi')
          refine ⟨_, Ex.refl _, fun R r => ⟨c, _, rfl, hrow, rfl, _, _, rfl, _, _, rfl, _, _, rfl, rfl, r⟩, rfl, fun H8 e8 Q8 q8 => ?_⟩
          have hsum : ((Rs[i + 1].2.2 : Nat) : Int) + ((r.2.2 : Nat) : Int) - 1 = ((Rs[i + 1].2.2 + (BM.dep (BM.qds Vs) w0 - 1) : Nat) : Int) := by omega
          have hE := eu_tup (σ := [some (.ref a), some (.ref b), some (.int (((BM.endAt (BM.qds Vs) w0 : Nat) : Int) + 1)), some (.int ((r.2.2 : Nat) : Int)), none, some (.str (wayS Rs[i + 1].1)), some (.str Rs[i + 1].2.1), some (.int ((Rs[i + 1].2.2 : Nat) : Int))]) (H := H8) (ea_cons (ev_var (i := 5) rfl) (ea_cons (ev_var (i := 6) rfl) (ea_cons (ev_op (ev_op (ev_var (i := 7) rfl) (ev_var (i := 3) rfl) (rv_I0 (g := fun i j => .int (i + j)))) ev_c (rv_I0 (g := fun i j => .int (i - j)) (j := 1))) ea_nil))) (by show 3 ≤ 100000; omega)
          rw [hsum] at hE
          exact hE H8 (Ex.refl H8) Q8 fun p H9 hp e9 h9 => q8 p H9 hp e9 ⟨_, h9, Rs[i + 1], List.getElem?_eq_getElem hi', rfl⟩)) fun p H4 _ ⟨ms, hm1, hm2, _⟩ => ⟨ms, hm1, ?_⟩
        refine ⟨by rw [hm2.len, List.length_map, List.length_map, List.length_drop], fun i c q h1 h2 => ?_⟩
        obtain ⟨o, ho, r', hr2, rfl⟩ := hm2.at_ i c h1
        rw [List.getElem?_map, List.getElem?_map, List.getElem?_drop, Nat.add_comm, hr2] at h2
        cases h2
        exact st_of ho
    refine q_asgN hmore fun pm H3 h3 e3 ⟨ms, hm1, hm2⟩ => ?_
    have e13 := e12.trans e3
    have hBeh : ∀ {σ : L2.St} {H1 : Hp}, σ[2]? = some (some (.int (((BM.endAt (BM.qds Vs) w0 : Nat) : Int) + 1))) → Ev (tVar 2) σ H1 (.int ((BM.behind Vs w0 : Nat) : Int)) := fun hσ => ev_int (ev_var hσ) rfl
    have hRows : ∀ {σ : L2.St} {H1 : Hp} {E : XK}, σ[0]? = some (some (.ref a)) → Ex H H1 → EvL (tMeth CQ "rows" (spQRows K CQ CS CA) [] E (tVar 0) tNil) σ H1 (refsV as) := fun hσ e => en_meth (ev_var hσ) (e _ _ dq.ob) (q_no _ _ _ _ _ (by decide +kernel)) ea_nil fun H2 e2 => ⟨a, Vs, w0, dx, g, st, en, up, as, ss, rfl, dq.mono (e.trans e2), rfl⟩
    have hmsl : ms.length = Rs.length - 1 := by rw [hm2.len, List.length_map, List.length_map, List.length_drop]
    refine s_retN (en_tup2 (xs := refsV (as.take (BM.behind Vs w0) ++ ms ++ as.drop (BM.behind Vs w0))) (by
      have h1 := el_slN (K := K) (hRows (σ := [some (.ref a), some (.ref b), some (.int (((BM.endAt (BM.qds Vs) w0 : Nat) : Int) + 1)), some (.int ((r.2.2 : Nat) : Int)), some (.ref pm), none, none, none]) (E := E0) rfl e13) eo_none (eo_some (hBeh rfl))
      have h2 := el_slN (K := K) (hRows (σ := [some (.ref a), some (.ref b), some (.int (((BM.endAt (BM.qds Vs) w0 : Nat) : Int) + 1)), some (.int ((r.2.2 : Nat) : Int)), some (.ref pm), none, none, none]) (E := E0) rfl e13) (eo_some (hBeh rfl)) eo_none
      rw [cut_to, ← refs_take] at h1
      rw [cut_from, ← refs_drop] at h2
      have h3 := el_cat3 (tb := tVar 4) h1 (ev_var rfl) hm1 (by rw [List.length_map, List.length_map, List.length_take]; omega)
      rw [← refs_append] at h3
      have h4 := el_catN h3 h2 (by rw [List.length_map, List.length_map, List.length_append, List.length_take, List.length_drop]; omega)
      rw [← refs_append] at h4
      exact h4) (hBeh rfl)) fun p H4 hp e4 ⟨l, hl1, hl2⟩ => k p H4 (fresh_back e13 hp) (e13.trans e4) ⟨l, _, hl1, hl2, ?_⟩
    rw [laid_rowQ]
    have t1 := (dq.mono (e13.trans e4)).tups
    exact ((t1.take _).append (hm2.mono e4)).append (t1.drop _)
/-! ### together -/
def spTog (K : PySem.W.Frag) (CQ CS CA : Addr) : Sp := spN fun vs H P => ∃ (a b : Addr) (w g : Nat) (V R : List QR) (r r' : QR), vs = [.ref a, .ref b] ∧ QueOb K CQ CS CA H a V w ∧ OkQ V ∧ w < V.length ∧ QueOb K CQ CS CA H b R g ∧ OkQ R ∧ g < R.length ∧ OkQ (BM.laidRows V R w) ∧ V[w]? = some r ∧ R[0]? = some r' ∧ r.2.1 = r'.2.1 ∧
  P = fun p H2 => QueOb K CQ CS CA H2 p (BM.laidRows V R w) (BM.e2 w (BM.behind V w) g)
theorem en_que {σ : L2.St} {H : Hp} {tg : TA} {c : Addr} {rows : List QR} {w : Nat} (h : EvA tg σ H [.ref c, .int (w : Int)]) (hR : RowsAt K H c (rows.map rowQ)) (O : OkQ rows) (hw : w < rows.length) : EvN (tMake CQ (spQueInit K CQ CS CA) [] E0 tg) σ H (fun p H2 => QueOb K CQ CS CA H2 p rows w) :=
  en_make h fun H1 x dx e hx hdx hne Q' k => ⟨x, dx, c, rows, w, rfl, upd_same, (hR.mono ((e.trans (Ex.new hdx)).trans (Ex.new (by rw [upd_ne (fun z => hne z.symm)]; exact hx)))), O, hw, fun H2 b hq => k H2 b hq⟩
theorem sc_together : FnScope ["view", "rest", "label", "rows", "behind"] ["view", "rest"] (defScope s_together) := ⟨rfl, rfl, rfl, by decide +kernel, rfl, by decide +kernel, by decide +kernel⟩
theorem fn_together (T : Txt K mg CD CQ CS CA) : Fn P w K mg base "together" 6 ["view", "rest"] (spTog K CQ CS CA) := by
  refine Fn.of T.g_together sc_together (fun _ _ _ _ _ _ us hl => match us, hl with | [_, _], _ => rfl) (fun vs H Q E h => ?_) (fun f cdv A outer s H vs Q E hr h => ?_)
  · obtain ⟨P, ⟨a, b, w0, g0, Vs, Rs, r, r', rfl, _⟩, _⟩ := h
    rfl
  · obtain ⟨P', ⟨a, b, w0, g0, Vs, Rs, r, r', rfl, qa, OV, hw, qb, OR, hg, OL, hr1, hr2, hlab, rfl⟩, k⟩ := h
    refine ⟨_, (pss_cons (ps_set (i := 2) sc_together.nd rfl (Or.inl rfl) (pe_fld (Mt.pe T.clQ (by exact m_Question_step_at T) (hr.mono (by decide)) (pv 1) (pa_cons pe_int pa_nil)) rfl))
  (pss_cons (ps_if (pt_cmpR op_ne (pv 2) (pe_fld (Mt.pe T.clQ (by exact m_Question_step_at T) (hr.mono (by decide)) (pv 0) (pa_cons (Mt.pe0 T.clQ (by exact m_Question_wanted T) (hr.mono (by decide)) (pv 0)) pa_nil)) rfl) (nomark _)) (pss_one ps_never) pss_nil)
  (pss_cons (ps_asg (Fn.pe (by exact fn_joined_rows T) (hr.mono (by decide)) (by rfl) (pa_cons (pv 0) (pa_cons (pv 1) pa_nil))) (pg_tup rfl (pgs_cons (pg_name (i := 3) sc_together.nd rfl (Or.inl rfl)) (pgs_cons (pg_name (i := 4) sc_together.nd rfl (Or.inl rfl)) pgs_nil))))
  (pss_cons (ps_if (pt_cmpR op_eq (Mt.pe0 T.clQ (by exact m_Question_wanted T) (hr.mono (by decide)) (pv 1)) pe_int (nomark _)) (pss_one (ps_ret (Ctor.pe (by exact c_Question T) (hr.mono (by decide)) (by rfl) (pa_cons (pv 3) (pa_cons (Mt.pe0 T.clQ (by exact m_Question_wanted T) (hr.mono (by decide)) (pv 0)) pa_nil))))) pss_nil)
  (pss_one (ps_ret (Ctor.pe (by exact c_Question T) (hr.mono (by decide)) (by rfl) (pa_cons (pv 3) (pa_cons (pe_op op_sub (pe_op op_add (pv 4) (Mt.pe0 T.clQ (by exact m_Question_wanted T) (hr.mono (by decide)) (pv 1))) pe_int) pa_nil))))))))), ?_⟩
    obtain ⟨dx, g, st, en, up, as, ss, dq⟩ := id qa
    obtain ⟨dx2, g2, st2, en2, up2, as2, ss2, dq2⟩ := id qb
    have hWant : ∀ {σ : L2.St} {H1 : Hp} {E : XK}, σ[0]? = some (some (.ref a)) → Ex H H1 → Ev (tMeth CQ "wanted" (spQWanted K CQ CS CA) [] E (tVar 0) tNil) σ H1 (.int (w0 : Int)) := fun hσ e => ev_methV (ev_var hσ) (e _ _ dq.ob) (q_no _ _ _ _ _ (by decide +kernel)) ea_nil fun H2 e2 => ⟨a, Vs, w0, rfl, qa.mono (e.trans e2), rfl⟩
    have hWantR : ∀ {σ : L2.St} {H1 : Hp} {E : XK}, σ[1]? = some (some (.ref b)) → Ex H H1 → Ev (tMeth CQ "wanted" (spQWanted K CQ CS CA) [] E (tVar 1) tNil) σ H1 (.int (g0 : Int)) := fun hσ e => ev_methV (ev_var hσ) (e _ _ dq2.ob) (q_no _ _ _ _ _ (by decide +kernel)) ea_nil fun H2 e2 => ⟨b, Rs, g0, rfl, qb.mono (e.trans e2), rfl⟩
    refine q_asg (ev_labelP T (ep_stepAt (w := g0) (i := 0) (ev_var rfl) qb (ea_cons ev_c ea_nil) hr2)) fun H1 e1 => ?_
    refine q_when (b := false) (et_is (et_test (ev_op (ev_var rfl) (ev_labelP T (ep_stepAt (w := w0) (i := w0) (ev_var rfl) (qa.mono e1) (ea_cons (hWant rfl e1) ea_nil) hr1)) (rv_ne rfl))) (by rw [hlab, decide_eq_true rfl]; rfl)) (fun q => by cases q) fun _ H2 e2 => ?_
    have e12 := e1.trans e2
    refine (en_call (P := fun p H2 => ∃ l as, H2 p = some (.tup [.ref l, .int ((BM.behind Vs w0 : Nat) : Int)]) ∧ H2 l = some (.lst (refsV as)) ∧ Tups K H2 as ((BM.laidRows Vs Rs w0).map rowQ)) (ea_cons (ev_var rfl) (ea_cons (ev_var rfl) ea_nil)) fun H3 e3 => ⟨a, b, w0, g0, Vs, Rs, rfl, qa.mono (e12.trans e3), OV, hw, qb.mono (e12.trans e3), OR, rfl⟩) H2 (Ex.refl H2) _ fun p H3 hp e3 ⟨l, ls, hl1, hl2, hl3⟩ => ?_
    refine ⟨p, _, rfl, st_of hl1, rfl, _, _, rfl, _, _, rfl, rfl, ?_⟩
    have e13 := e12.trans e3
    have hRA : RowsAt K H3 l ((BM.laidRows Vs Rs w0).map rowQ) := ⟨ls, sq_of hl2, hl3⟩
    have hb1 := BM.behind_gt Vs w0
    have hb2 := BM.behind_le hw
    have hlen := BM.laid_len (R := Rs) hw OR.pos
    refine q_when (b := decide (V.int (g0 : Int) = V.int 0)) (et_test (ev_op (hWantR rfl e13) ev_c (rv_eq rfl))) (fun q H4 e4 => ?_) fun q H4 e4 => ?_
    · have hg0 : g0 = 0 := by
        have := of_decide_eq_true q
        injection this with this
        omega
      subst hg0
      refine s_retN (en_que (rows := BM.laidRows Vs Rs w0) (w := w0) (ea_cons (ev_var rfl) (ea_cons (hWant rfl (e13.trans e4)) ea_nil)) (hRA.mono e4) OL (by rw [hlen]; omega)) fun p H5 hp5 e5 hP => k p H5 (fresh_back (e13.trans e4) hp5) ((e13.trans e4).trans e5) hP
    · have hg0 : g0 ≠ 0 := fun z => by
        subst z
        exact absurd q (by decide)
      have he2 : BM.e2 w0 (BM.behind Vs w0) g0 = BM.behind Vs w0 + g0 - 1 := by
        unfold BM.e2
        rw [if_neg hg0]
      rw [he2] at k
      refine s_retN (en_que (rows := BM.laidRows Vs Rs w0) (w := BM.behind Vs w0 + g0 - 1) (ea_cons (ev_var rfl) (ea_cons (ev_int (ev_op (ev_op (ev_var rfl) (hWantR rfl (e13.trans e4)) rv_I0) ev_c rv_I0) (by omega)) ea_nil)) (hRA.mono e4) OL (by rw [hlen]; omega)) fun p H5 hp5 e5 hP => k p H5 (fresh_back (e13.trans e4) hp5) ((e13.trans e4).trans e5) hP
end
end Bo
set_option Elab.async false
set_option linter.all false
set_option maxRecDepth 100000
set_option maxHeartbeats 4000000
namespace Bo
open PySem PySem.Spec PyProof.Rows L2 Evl BK BL
section
variable {P : Program} {w : World} {K : PySem.W.Frag} {mg : Str → Option Value} {base : Heap} {CD CQ CS CA : Addr}
/-! ### the source of numbers: a dict that is written -/
abbrev kS (z : Str) : Key := Sum.inr z
def srcD (n s t : Int) : List (Key × V) := [(kS "number", .int n), (kS "seed", .int s), (kS "turn", .int t)]
theorem ks_ne {a b : Str} (h : decide (a = b) = false) : ¬ kS a = kS b := fun q => of_decide_eq_false h (by injection q)
theorem src_num (n s t : Int) : valV (srcD n s t) (kS "number") = some (.int n) := valV_pos rfl
theorem src_seed (n s t : Int) : valV (srcD n s t) (kS "seed") = some (.int s) := by
  unfold srcD
  rw [valV_neg (ks_ne (by decide +kernel)), valV_pos rfl]
theorem src_turn (n s t : Int) : valV (srcD n s t) (kS "turn") = some (.int t) := by
  unfold srcD
  rw [valV_neg (ks_ne (by decide +kernel)), valV_neg (ks_ne (by decide +kernel)), valV_pos rfl]
theorem put_num (n s t m : Int) : putK (srcD n s t) (kS "number") (.int m) = srcD m s t := by
  unfold putK
  rw [valV_any, src_num, Option.isSome_some, if_pos rfl]
  unfold srcD
  rw [List.map_cons, List.map_cons, List.map_cons, if_pos rfl, if_neg (ks_ne (by decide +kernel)), if_neg (ks_ne (by decide +kernel))]
  rfl
theorem put_turn (n s t m : Int) : putK (srcD n s t) (kS "turn") (.int m) = srcD n s m := by
  unfold putK
  rw [valV_any, src_turn, Option.isSome_some, if_pos rfl]
  unfold srcD
  rw [List.map_cons, List.map_cons, List.map_cons, if_neg (ks_ne (by decide +kernel)), if_neg (ks_ne (by decide +kernel)), if_pos rfl]
  rfl
theorem merge_src (n s t : Int) : mergeK [] (srcD n s t) = srcD n s t := by
  unfold mergeK srcD
  rw [List.foldl_cons, List.foldl_cons, List.foldl_cons, List.foldl_nil]
  have h1 : putK ([] : List (Key × V)) (kS "number") (.int n) = [(kS "number", .int n)] := rfl
  rw [show putK ([] : List (Key × V)) (kS "number", V.int n).1 (kS "number", V.int n).2 = [(kS "number", .int n)] from h1]
  have h2 : putK [(kS "number", V.int n)] (kS "seed") (.int s) = [(kS "number", .int n), (kS "seed", .int s)] := by
    unfold putK
    rw [valV_any, valV_neg (ks_ne (by decide +kernel)), valV_nil]
    rfl
  rw [show putK [(kS "number", V.int n)] (kS "seed", V.int s).1 (kS "seed", V.int s).2 = _ from h2]
  show putK [(kS "number", V.int n), (kS "seed", V.int s)] (kS "turn") (.int t) = _
  unfold putK
  rw [valV_any, valV_neg (ks_ne (by decide +kernel)), valV_neg (ks_ne (by decide +kernel)), valV_nil]
  rfl
def Src (H : Hp) (D : Addr) : Prop := ∃ n s t, H D = some (.dK (srcD n s t))
theorem Src.mono {H H' : Hp} {D : Addr} (e : Ex H H') (h : Src H D) : Src H' D := let ⟨n, s, t, h⟩ := h; ⟨n, s, t, e _ _ h⟩
theorem Src.ne {H : Hp} {D a : Addr} {o : HO} (h : Src H D) (ha : H a = some o) (ho : ∀ k, o ≠ .dK k) : a ≠ D := fun z => by
  obtain ⟨n, s, t, h⟩ := h
  rw [z, h] at ha
  cases ha
  exact ho _ rfl
theorem Src.new {H : Hp} {D a : Addr} (h : Src H D) (ha : H a = none) : a ≠ D := fun z => by
  obtain ⟨n, s, t, h⟩ := h
  rw [z, h] at ha
  cases ha
theorem exs_rd {D a : Addr} {H H' : Hp} {o : HO} (s : Src H D) (e : ExB D H H') (ho : ∀ k, o ≠ .dK k) (h : Rd H a o) : Rd H' a o := by
  rcases h with h | ⟨o', h⟩
  · exact .inl (e a _ (s.ne h ho) h)
  · exact .inr ⟨o', e a _ (s.ne h fun k q => by cases q) h⟩
theorem exs_t {D a : Addr} {H H' : Hp} {xs : List V} (s : Src H D) (e : ExB D H H') (h : SqT K H a xs) : SqT K H' a xs := h.imp (exs_rd s e fun k q => by cases q) id
theorem exs_l {D a : Addr} {H H' : Hp} {xs : List V} (s : Src H D) (e : ExB D H H') (h : SqL K H a xs) : SqL K H' a xs := h.imp (exs_rd s e fun k q => by cases q) id
theorem exs_o {D a : Addr} {H H' : Hp} {o : HO} (s : Src H D) (e : ExB D H H') (ho : ∀ k, o ≠ .dK k) (h : H a = some o) : H' a = some o := e a _ (s.ne h ho) h
theorem fresh_backS {D p : Addr} {H H' : Hp} (s : Src H D) (s' : Src H' D) (e : ExB D H H') (h : H' p = none) : H p = none := by
  cases q : H p with
  | none => rfl
  | some o =>
    have := e p o (s'.new h) q
    rw [h] at this
    cases this
def spS (R : List V → Hp → Addr → (V → Hp → Prop) → Prop) : Sp := fun vs H Q _ => ∃ D P, R vs H D P ∧ Src H D ∧ ∀ v H2, ExB D H H2 → Src H2 D → P v H2 → Q v H2
/-- evaluated, the source alone written -/
def EvS (D : Addr) (te : TE) (σ : L2.St) (H : Hp) (P : V → Prop) : Prop := ∀ H1, ExB D H H1 → Src H1 D → ∀ Q : VK, (∀ v H2, ExB D H1 H2 → Src H2 D → P v → Q v H2) → te σ H1 Q
section
variable {σ : L2.St} {D : Addr} {H : Hp} {te ta tb tm : TE} {P R S : V → Prop} {N : Ends} {tz tu tw : TS}
theorem EvS.imp (h : EvS D te σ H P) (i : ∀ v, P v → R v) : EvS D te σ H R := fun H1 e s Q q => h H1 e s Q fun v H2 e2 s2 p => q v H2 e2 s2 (i v p)
theorem EvS.mono {H' : Hp} (e : ExB D H H') (h : EvS D te σ H P) : EvS D te σ H' P := fun H1 e1 => h H1 (e.trans e1)
theorem es_ev {v : V} (h : ∀ H1, ExB D H H1 → Src H1 D → Ev te σ H1 v) (hP : P v) : EvS D te σ H P := fun H1 e s Q q => h H1 e s H1 (Ex.refl H1) Q fun H2 e2 => q v H2 (ExB.of e2) (s.mono e2) hP
theorem es_c {v : V} (hP : P v) : EvS D (tC v) σ H P := es_ev (fun _ _ _ => ev_c) hP
theorem es_var {i : Nat} {v : V} (h : σ[i]? = some (some v)) (hP : P v) : EvS D (tVar i) σ H P := es_ev (fun _ _ _ => ev_var h) hP
theorem es_op {r : R2} (ha : EvS D ta σ H P) (hb : EvS D tb σ H R) (hr : ∀ x y, P x → R y → ∃ z, S z ∧ ∀ H1, RV r x y H1 z) : EvS D (tOp r ta tb) σ H S := fun H1 e s Q q =>
  ha H1 e s _ fun x H2 e2 s2 hx => hb H2 (e.trans e2) s2 _ fun y H3 e3 s3 hy => by
    obtain ⟨z, hz, h⟩ := hr x y hx hy
    exact h H3 H3 (Ex.refl H3) Q fun H4 e4 => q z H4 ((e2.trans e3).trans (ExB.of e4)) (s3.mono e4) hz
theorem es_ixC {xs : List V} (h : ∀ H1, EvL ta σ H1 xs) (hb : EvS D tb σ H R) (hr : ∀ y, R y → ∃ i z, y = .int i ∧ atI xs i = some z ∧ P z) : EvS D (tOp (rIxL K) ta tb) σ H P := fun H1 e s Q q =>
  h H1 H1 (Ex.refl H1) _ fun p H2 hp e2 hx => hb H2 (e.trans (ExB.of e2)) (s.mono e2) _ fun y H3 e3 s3 hy => by
    obtain ⟨i, z, rfl, hz, hP⟩ := hr y hy
    exact ⟨p, xs, i, z, rfl, rfl, sq_of (e3 _ _ (s.new hp) hx), hz, q z H3 ((ExB.of e2).trans e3) s3 hP⟩
theorem es_ixL {xs : List V} {i : Nat} {l : Addr} (hσ : σ[i]? = some (some (.ref l))) (hs : Src H D) (hl : SqL K H l xs) (hb : EvS D tb σ H R) (hr : ∀ y, R y → ∃ i z, y = .int i ∧ atI xs i = some z ∧ P z) : EvS D (tOp (rIxL K) (tVar i) tb) σ H P := fun H1 e s Q q =>
  ⟨_, hσ, hb H1 e s _ fun y H3 e3 s3 hy => by
    obtain ⟨i, z, rfl, hz, hP⟩ := hr y hy
    exact ⟨l, xs, i, z, rfl, rfl, exs_l hs (e.trans e3) hl, hz, q z H3 e3 s3 hP⟩⟩
theorem q_asgS {i : Nat} (s : Src H D) (h : EvS D te σ H P) (k : ∀ v H1, ExB D H H1 → Src H1 D → P v → tz N (σ.set i (some v)) H1) : tSeq (tAsg te (gName i)) tz N σ H := h H ExB.refl s _ fun v H1 e s1 hP => k v H1 e s1 hP
theorem s_asgS {i : Nat} (s : Src H D) (h : EvS D te σ H P) (k : ∀ v H1, ExB D H H1 → Src H1 D → P v → N.nx (σ.set i (some v)) H1) : tAsg te (gName i) N σ H := h H ExB.refl s _ fun v H1 e s1 hP => k v H1 e s1 hP
theorem s_retS (s : Src H D) (h : EvS D te σ H P) (k : ∀ v H1, ExB D H H1 → Src H1 D → P v → N.rt v H1) : tRet te N σ H := h H ExB.refl s _ fun v H1 e s1 hP => k v H1 e s1 hP
/-- a number of the source -/
def isLt (m : Nat) (v : V) : Prop := ∃ r : Nat, r < m ∧ v = .int (r : Int)
def spTake : Sp := spS fun vs H D P => ∃ m : Nat, vs = [.ref D, .int (m : Int)] ∧ 0 < m ∧ m < 1000000 ∧ P = fun v _ => isLt m v
theorem es_take {i m : Nat} {E : XK} (hσ : σ[i]? = some (some (.ref D))) (hm : ∀ H1, ExB D H H1 → Src H1 D → Ev tm σ H1 (.int (m : Int))) (h0 : 0 < m) (h1 : m < 1000000) : EvS D (tCall spTake [] E (tCons (tVar i) (tCons tm tNil))) σ H (isLt m) := fun H1 e s Q q =>
  ⟨_, hσ, hm H1 e s H1 (Ex.refl H1) _ fun H2 e2 => ⟨D, _, ⟨m, rfl, h0, h1, rfl⟩, s.mono e2, fun v H3 e3 s3 hv => q v H3 ((ExB.of e2).trans e3) s3 hv⟩⟩
theorem es_takeC {i m : Nat} {E : XK} (hσ : σ[i]? = some (some (.ref D))) (h0 : 0 < m) (h1 : m < 1000000) : EvS D (tCall spTake [] E (tCons (tVar i) (tCons (tC (.int (m : Int))) tNil))) σ H (isLt m) := es_take hσ (fun _ _ _ => ev_c) h0 h1
end
/-! ### _law_cell_at, _law_source -/
def spCell (K : PySem.W.Frag) : Sp := spV fun vs H v => ∃ (a : Addr) (xs : List V) (k : Nat), vs = [.ref a, .int (k : Int)] ∧ SqL K H a xs ∧ v = (xs[k]?).getD (.int (7919 * (k : Int) + 13))
theorem sc_law_cell_at : FnScope ["_law_script", "_law_k"] ["_law_script", "_law_k"] (defScope s__law_cell_at) := ⟨rfl, rfl, rfl, by decide +kernel, rfl, by decide +kernel, by decide +kernel⟩
theorem fn__law_cell_at (T : Txt K mg CD CQ CS CA) : Fn P w K mg base "_law_cell_at" 1 ["_law_script", "_law_k"] (spCell K) := by
  refine Fn.of T.g__law_cell_at sc_law_cell_at (fun _ _ _ _ _ _ us hl => match us, hl with | [_, _], _ => rfl) (fun vs H Q E h => ?_) (fun f cdv A outer s H vs Q E hr h => ?_)
  · obtain ⟨v, ⟨a, xs, n, rfl, _⟩, _⟩ := h
    rfl
  · obtain ⟨v, ⟨a, xs, n, rfl, hx, rfl⟩, k⟩ := h
    refine ⟨_, (pss_cons (ps_if (pt_cmpR op_lt (pv 1) (pe_callB call_len_seq (by rfl) T.z_len (by decide +kernel) (pa_cons (pv 0) pa_nil)) (nomark _)) (pss_one (ps_ret (pe_ix ix_list (pv 0) (pv 1) (fun _ _ => rfl)))) pss_nil)
  (pss_one (ps_ret (pe_op op_add (pe_op op_mul pe_int (pv 1)) pe_int)))), ?_⟩
    refine q_when (b := decide ((n : Int) < (xs.length : Int))) (et_test (ev_op (ev_var rfl) (ev_len (ev_var rfl) hx) rv_I0)) (fun q H1 e1 => ?_) fun q H1 e1 => ?_
    · have hn : n < xs.length := Int.ofNat_lt.mp (of_decide_eq_true q)
      rw [List.getElem?_eq_getElem hn] at k
      exact s_ret (ev_op (ev_var rfl) (ev_var rfl) (rv_ixL (ex_l e1 hx) (atI_nat (List.getElem?_eq_getElem hn)))) fun H2 e2 => k H2 (e1.trans e2)
    · have hn : ¬ n < xs.length := fun h => of_decide_eq_false q (Int.ofNat_lt.mpr h)
      rw [List.getElem?_eq_none (by omega)] at k
      exact s_ret (ev_op (ev_op ev_c (ev_var rfl) (rv_I (.inl (by decide)))) ev_c rv_I0) fun H2 e2 => k H2 (e1.trans e2)
def spSource : Sp := spN fun vs H P => ∃ c : Int, vs = [.int c] ∧ P = fun D H2 => Src H2 D
theorem en_disp3 {σ : L2.St} {H : Hp} {t1 t2 t3 : TE} {n s t : Int} (h1 : Ev t1 σ H (.int n)) (h2 : Ev t2 σ H (.int s)) (h3 : Ev t3 σ H (.int t)) : EvN (tDisp [(tC (.str "number"), t1), (tC (.str "seed"), t2), (tC (.str "turn"), t3)]) σ H (fun D H2 => Src H2 D) := fun H1 e Q q p hp => by
  have e0 : Ex H1 (upd H1 p (.dK [])) := Ex.new hp
  refine h1 _ (e.trans e0) _ fun H2 e2 => h2 _ ((e.trans e0).trans e2) _ fun H3 e3 => h3 _ (((e.trans e0).trans e2).trans e3) _ fun H4 e4 => ?_
  have e24 := (e2.trans e3).trans e4
  refine ⟨e24 _ _ upd_same, srcD n s t, rfl, by show 3 ≤ 15; omega, ?_⟩
  rw [merge_src]
  exact q p _ hp (Ex.mut (e0.trans e24) hp) ⟨n, s, t, upd_same⟩
theorem sc_law_source : FnScope ["_law_cell"] ["_law_cell"] (defScope s__law_source) := ⟨rfl, rfl, rfl, by decide +kernel, rfl, by decide +kernel, by decide +kernel⟩
theorem fn__law_source (T : Txt K mg CD CQ CS CA) : Fn P w K mg base "_law_source" 1 ["_law_cell"] spSource := by
  refine Fn.of T.g__law_source sc_law_source (fun _ _ _ _ _ _ us hl => match us, hl with | [_], _ => rfl) (fun vs H Q E h => ?_) (fun f cdv A outer s H vs Q E hr h => ?_)
  · obtain ⟨v, ⟨c, rfl, _⟩, _⟩ := h
    rfl
  · obtain ⟨v, ⟨c, rfl, rfl⟩, k⟩ := h
    refine ⟨_, (pss_one (ps_ret (pe_disp (pps_cons pe_str (pe_op op_mul (pe_callB (call_max2 rfl) (by rfl) T.z_max (by decide +kernel) (pa_cons pe_int (pa_cons (pv 0) pa_nil))) (pe_callTy call_int1 (by rfl) T.z_int (by decide +kernel) (pa_cons (pe_cmpR op_ge (pv 0) (pe_op op_pow pe_int pe_int) (nomark _)) pa_nil))) (pps_cons pe_str (pe_op op_mod (pv 0) pe_int) (pps_cons pe_str pe_int pps_nil))) (by rfl) (by rfl) (fun z => by cases z) (by decide)))), ?_⟩
    refine s_retN (en_disp3 (n := (if c > 0 then c else 0) * (if decide ((10 : Int) ^ (18 : Int).toNat ≤ c) = true then 1 else 0)) (s := c % 2147483629) (ev_op (ev_max2 ev_c (ev_var rfl)) (ev_int1 (ev_op (ev_var rfl) (ev_op ev_c ev_c (rv_I ⟨by decide, by decide, by decide⟩)) rv_I0)) (rv_I (.inr ?_))) (ev_op (ev_var rfl) ev_c (rv_I (by decide))) ev_c) fun p H1 hp e1 hP => k p H1 hp e1 hP
    split <;> decide
/-! ### _law_take -/
theorem sc_law_take : FnScope ["_law_source_here", "_law_many", "_law_digit", "_law_number"] ["_law_source_here", "_law_many"] (defScope s__law_take) := ⟨rfl, rfl, rfl, by decide +kernel, rfl, by decide +kernel, by decide +kernel⟩
theorem fn__law_take (T : Txt K mg CD CQ CS CA) : Fn P w K mg base "_law_take" 1 ["_law_source_here", "_law_many"] spTake := by
  refine Fn.of T.g__law_take sc_law_take (fun _ _ _ _ _ _ us hl => match us, hl with | [_, _], _ => rfl) (fun vs H Q E h => ?_) (fun f cdv A outer s H vs Q E hr h => ?_)
  · obtain ⟨D, P, ⟨m, rfl, _⟩, _⟩ := h
    rfl
  · obtain ⟨D, P', ⟨m, rfl, h0, h1, rfl⟩, ⟨n, s, t, hD⟩, k⟩ := h
    refine ⟨_, (pss_cons (ps_if (pt_cmpR op_gt (pe_dget (hu_of hr) (pv 0) pe_str (fun _ _ => rfl)) pe_int (nomark _)) (pss_cons (ps_set (i := 2) sc_law_take.nd rfl (Or.inl rfl) (pe_op op_mod (pe_dget (hu_of hr) (pv 0) pe_str (fun _ _ => rfl)) (pv 1)))
  (pss_cons (ps_dput (hu_of hr) (pv 0) pe_str (pe_op op_fdivN (pe_dget (hu_of hr) (pv 0) pe_str (fun _ _ => rfl)) (pv 1)) rfl)
  (pss_one (ps_ret (pv 2))))) pss_nil)
  (pss_cons (ps_dput (hu_of hr) (pv 0) pe_str (pe_op op_add (pe_dget (hu_of hr) (pv 0) pe_str (fun _ _ => rfl)) pe_int) rfl)
  (pss_cons (ps_set (i := 3) sc_law_take.nd rfl (Or.inl rfl) (pe_op op_mod (pe_op op_mul (pe_op op_add (pe_dget (hu_of hr) (pv 0) pe_str (fun _ _ => rfl)) (pe_op op_mul pe_int (pe_dget (hu_of hr) (pv 0) pe_str (fun _ _ => rfl)))) pe_int) pe_int))
  (pss_cons (ps_set (i := 3) sc_law_take.nd rfl (Or.inl rfl) (pe_op op_mod (pe_op op_mul (pv 3) (pv 3)) pe_int))
  (pss_one (ps_ret (pe_op op_mod (pe_op op_fdiv (pe_op op_mod (pe_op op_mul (pe_op op_add (pv 3) (pe_dget (hu_of hr) (pv 0) pe_str (fun _ _ => rfl))) (pe_op op_add (pv 3) pe_int)) pe_int) pe_int) (pv 1)))))))), ?_⟩
    have hmi : (0 : Int) < (m : Int) := by omega
    have hin : ∀ z : Int, isLt m (.int (z % (m : Int))) := fun z => by
      have h1 := Int.emod_nonneg z (show (m : Int) ≠ 0 by omega)
      have h2 := Int.emod_lt_of_pos z hmi
      exact ⟨(z % (m : Int)).toNat, by omega, congrArg V.int (by omega)⟩
    refine q_when (b := decide ((0 : Int) < n)) (et_test (ev_op (ev_dgetK (k := kS "number") (ev_var rfl) ev_c (.inl hD) (src_num n s t)) ev_c rv_I0)) (fun q H1 e1 => ?_) fun q H1 e1 => ?_
    · refine q_asg (ev_op (ev_dgetK (k := kS "number") (ev_var rfl) ev_c (.inl (e1 _ _ hD)) (src_num n s t)) (ev_var rfl) (rv_I hmi)) fun H2 e2 => ?_
      have hD2 := e2 _ _ (e1 _ _ hD)
      refine q_dput (k := kS "number") (ev_op (ev_dgetK (k := kS "number") (ev_var rfl) ev_c (.inl hD2) (src_num n s t)) (ev_var rfl) (rv_I ⟨by omega, by omega⟩)) (ev_var rfl) ev_c hD2 (by show 3 < 100000; omega) fun H3 e3 => ?_
      rw [put_num]
      refine s_ret (ev_var rfl) fun H4 e4 => k _ H4 (((ExB.of ((e1.trans e2).trans e3)).upd).trans (ExB.of e4)) ⟨_, s, t, e4 _ _ upd_same⟩ (hin n)
    · have hD1 := e1 _ _ hD
      refine q_dput (k := kS "turn") (ev_op (ev_dgetK (k := kS "turn") (ev_var rfl) ev_c (.inl hD1) (src_turn n s t)) ev_c rv_I0) (ev_var rfl) ev_c hD1 (by show 3 < 100000; omega) fun H2 e2 => ?_
      rw [put_turn]
      have b2 : ExB D H (upd H2 D (.dK (srcD n s (t + 1)))) := (ExB.of (e1.trans e2)).upd
      have hD3 : upd H2 D (.dK (srcD n s (t + 1))) D = some (.dK (srcD n s (t + 1))) := upd_same
      refine q_asg (ev_op (ev_op (ev_op (ev_dgetK (k := kS "seed") (ev_var rfl) ev_c (.inl hD3) (src_seed _ _ _)) (ev_op ev_c (ev_dgetK (k := kS "turn") (ev_var rfl) ev_c (.inl hD3) (src_turn _ _ _)) (rv_I (.inl (by decide)))) rv_I0) ev_c (rv_I (.inr (by decide)))) ev_c (rv_I (by decide))) fun H3 e3 => ?_
      have hD4 := e3 _ _ hD3
      generalize hz : (s + 7919 * (t + 1)) * 48271 % 2147483647 = z
      have z1 : 0 ≤ z := by rw [← hz]; exact Int.emod_nonneg _ (by decide)
      have z2 : z < 2147483647 := by rw [← hz]; exact Int.emod_lt_of_pos _ (by decide)
      refine q_asg (ev_op (ev_op (ev_var rfl) (ev_var rfl) (rv_I (.inl ⟨by omega, by omega⟩))) ev_c (rv_I (by decide))) fun H4 e4 => ?_
      have hD5 := e4 _ _ hD4
      generalize hy : z * z % 2147483629 = y
      have y1 : 0 ≤ y := by rw [← hy]; exact Int.emod_nonneg _ (by decide)
      have y2 : y < 2147483629 := by rw [← hy]; exact Int.emod_lt_of_pos _ (by decide)
      refine s_ret (ev_op (ev_op (ev_op (ev_op (ev_op (ev_var rfl) (ev_dgetK (k := kS "turn") (ev_var rfl) ev_c (.inl hD5) (src_turn _ _ _)) rv_I0) (ev_op (ev_var rfl) ev_c rv_I0) (rv_I (.inr ⟨by omega, by omega⟩))) ev_c (rv_I (by decide))) ev_c (rv_I ⟨by decide, by decide⟩)) (ev_var rfl) (rv_I hmi)) fun H5 e5 => k _ H5 (b2.trans (ExB.of ((e3.trans e4).trans e5))) ⟨_, _, _, e5 _ _ hD5⟩ (hin _)
end
end Bo
set_option Elab.async false
set_option linter.all false
set_option maxRecDepth 100000
set_option maxHeartbeats 4000000
namespace Bo
open PySem PySem.Spec PyProof.Rows L2 Evl BK BL
section
variable {P : Program} {w : World} {K : PySem.W.Frag} {mg : Str → Option Value} {base : Heap} {CD CQ CS CA : Addr}
theorem list_choose {β : Type} : ∀ {xs : List V} {P : Nat → V → β → Prop}, (∀ j v, xs[j]? = some v → ∃ b, P j v b) → ∃ bs : List β, bs.length = xs.length ∧ ∀ (j : Nat) (v : V) (b : β), xs[j]? = some v → bs[j]? = some b → P j v b
  | [], P, _ => ⟨[], rfl, fun j v b h => by simp at h⟩
  | x :: xs, P, h => by
    obtain ⟨b, hb⟩ := h 0 x rfl
    obtain ⟨bs, h1, h2⟩ := list_choose (xs := xs) (P := fun j => P (j + 1)) fun j v hv => h (j + 1) v hv
    refine ⟨b :: bs, by rw [List.length_cons, List.length_cons, h1], fun j v c hv hc => ?_⟩
    cases j with
    | zero =>
      cases hv
      cases hc
      exact hb
    | succ j => exact h2 j v c hv hc
/-- a comprehension whose turns write the source -/
theorem lc_src {J : It} {n : Nat} {G : Hp → Prop} {Y : Nat → Hp → V → Hp → Prop} {g : TG} {te : TE} {ws : List Nat} {σ : L2.St} {D : Addr} {H1 : Hp} (S : Nat → V → Hp → Prop) (hS : ∀ i v Ha Hb, (∀ a xs, SqT K Ha a xs → SqT K Hb a xs) → S i v Ha → S i v Hb) (hn : n ≤ 40000) (w : Walk J n G Y) (s1 : Src H1 D) (hG : ∀ H', ExB D H1 H' → Src H' D → G H')
    (hg : ∀ i x Ha Hb, i < n → ExB D H1 Ha → Src Ha D → Y i Ha x Hb → ∃ σ2, Ex Ha Hb ∧ (∀ R : L2.St → Hp → Prop, R σ2 Hb → g x (wipe σ ws) Hb R) ∧ wipe σ2 ws = wipe σ ws ∧ ∀ Q : VK, (∀ v H2, ExB D Hb H2 → Src H2 D → S i v H2 → Q v H2) → te σ2 Hb Q)
    (Q : VK) (q : ∀ p xs H', H1 p = none → ExB D H1 H' → Src H' D → H' p = some (.lst xs) → xs.length = n → (∀ j v, xs[j]? = some v → S j v H') → Q (.ref p) H') : tLc (fun _ H R => R J H) g tYes te ws σ H1 Q := fun Dl hD => by
  have hne : Dl ≠ D := s1.new hD
  refine lc_it w (fun i H' => ExB D H1 H' ∧ Src H' D ∧ ∃ xs, H' Dl = some (.lst xs) ∧ xs.length = i ∧ ∀ j v, xs[j]? = some v → S j v H') ⟨ExB.of (Ex.new hD), s1.mono (Ex.new hD), [], upd_same, rfl, fun j v h => by simp at h⟩ (fun i H' _ p => hG H' p.1 p.2.1) (fun i x Ha Hb hi p y => ?_) fun H' p => ?_
  · obtain ⟨p1, p2, xs, p3, p4, p5⟩ := p
    obtain ⟨σ2, ex, hgo, hw, hel⟩ := hg i x Ha Hb hi p1 p2 y
    refine hgo _ ⟨hw, ?_⟩
    show te σ2 Hb fun y H4 => ∃ acc, H4 Dl = some (.lst acc) ∧ acc.length < sizeLine ∧ _
    refine hel _ fun v H4 e4 s4 hv => ?_
    have e14 : ExB D Ha H4 := (ExB.of ex).trans e4
    have h4 : H4 Dl = some (.lst xs) := e14 _ _ hne p3
    have hT : ∀ a ys, SqT K H4 a ys → SqT K (upd H4 Dl (.lst (xs ++ [v]))) a ys := fun a ys h => h.imp (fun h => by
      have hna : a ≠ Dl := fun z => by
        rw [z] at h
        rcases h with h | ⟨o, h⟩ <;> rw [h4] at h <;> cases h
      rcases h with h | ⟨o, h⟩
      · exact .inl (by rw [upd_ne hna]; exact h)
      · exact .inr ⟨o, by rw [upd_ne hna]; exact h⟩) id
    refine ⟨xs, h4, sz_lt (by omega), fun b o hb hbo => ?_, ?_, xs ++ [v], upd_same, by rw [List.length_append, p4]; rfl, fun j u hj => ?_⟩
    · rw [upd_ne (fun z => by rw [z, hD] at hbo; cases hbo)]
      exact (p1.trans e14) b o hb hbo
    · obtain ⟨a, b, c, s4⟩ := s4
      exact ⟨a, b, c, by rw [upd_ne (fun z => hne z.symm)]; exact s4⟩
    · by_cases hji : j < i
      · rw [List.getElem?_append_left (by rw [p4]; exact hji)] at hj
        exact hS j u Ha _ (fun a ys h => hT a ys (exs_t p2 e14 h)) (p5 j u hj)
      · rw [List.getElem?_append_right (by rw [p4]; omega), p4] at hj
        have hz : j - i = 0 := by
          by_cases z : j - i = 0
          · exact z
          · rw [List.getElem?_eq_none (by rw [List.length_singleton]; omega)] at hj
            cases hj
        rw [hz] at hj
        have e3 : v = u := by simpa using hj
        have e4 : j = i := by omega
        subst e3
        subst e4
        exact hS j v H4 _ hT hv
  · obtain ⟨p1, p2, xs, p3, p4, p5⟩ := p
    exact q Dl xs H' hD p1 p2 p3 p4 p5
theorem lc_srcW {J : It} {n : Nat} {G : Hp → Prop} {Y : Nat → Hp → V → Hp → Prop} {g : TG} {te : TE} {ws : List Nat} {σ : L2.St} {D : Addr} {H0 H1 : Hp} {wi : TI} (hi : ∀ R : It → Hp → Prop, R J H1 → wi σ H0 R) (S : Nat → V → Hp → Prop) (hS : ∀ i v Ha Hb, (∀ a xs, SqT K Ha a xs → SqT K Hb a xs) → S i v Ha → S i v Hb) (hn : n ≤ 40000) (w : Walk J n G Y) (s1 : Src H1 D) (hG : ∀ H', ExB D H1 H' → Src H' D → G H')
    (hg : ∀ i x Ha Hb, i < n → ExB D H1 Ha → Src Ha D → Y i Ha x Hb → ∃ σ2, Ex Ha Hb ∧ (∀ R : L2.St → Hp → Prop, R σ2 Hb → g x (wipe σ ws) Hb R) ∧ wipe σ2 ws = wipe σ ws ∧ ∀ Q : VK, (∀ v H2, ExB D Hb H2 → Src H2 D → S i v H2 → Q v H2) → te σ2 Hb Q)
    (Q : VK) (q : ∀ p xs H', H1 p = none → ExB D H1 H' → Src H' D → H' p = some (.lst xs) → xs.length = n → (∀ j v, xs[j]? = some v → S j v H') → Q (.ref p) H') : tLc wi g tYes te ws σ H0 Q :=
  hi _ (lc_src (K := K) S hS hn w s1 hG hg Q q)
section
variable {σ : L2.St} {D : Addr} {H : Hp} {te ta tb tm : TE} {P R S : V → Prop} {N : Ends} {tz tu tw : TS} {t u : TT}
theorem rv_addS {x y : Str} {H : Hp} (h : x.length + y.length ≤ 100000) : RV (fun x y (H : Hp) (Q : VK) => ∃ i j, x = V.str i ∧ y = .str j ∧ i.length + j.length ≤ sizeLine ∧ Q (.str (i ++ j)) H) (.str x) (.str y) H (.str (x ++ y)) := fun H1 _ Q q => ⟨x, y, rfl, rfl, sz_of h, q H1 (Ex.refl H1)⟩
theorem es_slS {i : Nat} {z : Str} (hσ : σ[i]? = some (some (.str z))) (hz : z.length ≤ 100000) (hb : EvS D tb σ H R) (hr : ∀ y, R y → ∃ k : Nat, y = .int (k : Int) ∧ P (.str (cutS z none (some (k : Int))))) : EvS D (tSl rSlS (tVar i) tNoPart (tPart tb)) σ H P := fun H1 e s Q q =>
  ⟨_, hσ, hb H1 e s _ fun y H3 e3 s3 hy => by
    obtain ⟨k, rfl, hP⟩ := hr y hy
    exact ⟨(k : Int), rfl, z, rfl, sz_of hz, q _ H3 e3 s3 hP⟩⟩
/-- a test, the source alone written -/
def EvST (D : Addr) (t : TT) (σ : L2.St) (H : Hp) (P : Bool → Prop) : Prop := ∀ H1, ExB D H H1 → Src H1 D → ∀ Q : Bool → Hp → Prop, (∀ b H2, ExB D H1 H2 → Src H2 D → P b → Q b H2) → t σ H1 Q
theorem est_of {b : Bool} {P : Bool → Prop} (h : ∀ H1, ExB D H H1 → EvT t σ H1 b) (hP : P b) : EvST D t σ H P := fun H1 e s Q q => h H1 e H1 (Ex.refl H1) Q fun H2 e2 => q b H2 (ExB.of e2) (s.mono e2) hP
theorem est_test {P : Bool → Prop} (h : EvS D te σ H (fun v => ∃ b, v = .bl b ∧ P b)) : EvST D (tTest te) σ H P := fun H1 e s Q q => h H1 e s _ fun v H2 e2 s2 ⟨b, hv, hP⟩ => ⟨b, hv, q b H2 e2 s2 hP⟩
theorem est_and {P1 P2 P : Bool → Prop} (h1 : EvST D t σ H P1) (h2 : EvST D u σ H P2) (hf : P1 false → P false) (ht : ∀ b, P1 true → P2 b → P b) : EvST D (tAnd t u) σ H P := fun H1 e s Q q => h1 H1 e s _ fun b H2 e2 s2 hb => by
  cases b with
  | true =>
    show u σ H2 Q
    exact h2 H2 (e.trans e2) s2 Q fun c H3 e3 s3 hc => q c H3 (e2.trans e3) s3 (ht c hb hc)
  | false =>
    show Q false H2
    exact q false H2 e2 s2 (hf hb)
theorem est_or {P1 P2 P : Bool → Prop} (h1 : EvST D t σ H P1) (h2 : EvST D u σ H P2) (ht : P1 true → P true) (hf : ∀ b, P1 false → P2 b → P b) : EvST D (tOr t u) σ H P := fun H1 e s Q q => h1 H1 e s _ fun b H2 e2 s2 hb => by
  cases b with
  | true =>
    show Q true H2
    exact q true H2 e2 s2 (ht hb)
  | false =>
    show u σ H2 Q
    exact h2 H2 (e.trans e2) s2 Q fun c H3 e3 s3 hc => q c H3 (e2.trans e3) s3 (hf c hb hc)
theorem q_whenS {P : Bool → Prop} (s : Src H D) (h : EvST D t σ H P) (h1 : P true → ∀ H1, ExB D H H1 → Src H1 D → tu { N with nx := tz N } σ H1) (h2 : P false → ∀ H1, ExB D H H1 → Src H1 D → tz N σ H1) : tSeq (tIfS t tu tNext) tz N σ H := h H ExB.refl s _ fun b H1 e s1 hb => by
  cases b with
  | true =>
    show tu { N with nx := tz N } σ H1
    exact h1 hb H1 e s1
  | false =>
    show tz N σ H1
    exact h2 hb H1 e s1
theorem s_appX {l : Addr} {xs : List V} (hl : H l = some (.lst xs)) (ha : Ev ta σ H (.ref l)) (hz : xs.length < 100000) (h : ∀ H1, Ex H H1 → ∀ Q : VK, (∀ v H2, H2 l = some (.lst xs) → N.nx σ (upd H2 l (.lst (xs ++ [v]))) → Q v H2) → te σ H1 Q) : tDrop (tBM K "list" rAppend ta (tCons te tNil)) N σ H := ha H (Ex.refl H) _ fun H1 e1 =>
  ⟨Or.inl ⟨rfl, xs, sq_of (e1 l _ hl)⟩, h H1 e1 _ fun v H2 h2 hk => ⟨l, xs, v, rfl, rfl, h2, sz_lt hz, hk⟩⟩
theorem es_tup2 {w : V} (h1 : EvS D ta σ H P) (h2 : ∀ H1, ExB D H H1 → Ev tb σ H1 w) : ∀ H1, ExB D H H1 → Src H1 D → ∀ Q : VK, (∀ p v H2, H1 p = none → ExB D H1 H2 → Src H2 D → P v → H2 p = some (.tup [v, w]) → Q (.ref p) H2) → tTup (tCons ta (tCons tb tNil)) σ H1 Q := fun H1 e s Q q =>
  h1 H1 e s _ fun v H2 e2 s2 hv => h2 H2 (e.trans e2) H2 (Ex.refl H2) _ fun H3 e3 => ⟨sz_of (by show 2 ≤ 100000; omega), fun p hp => by
    have s3 := s2.mono e3
    exact q p v _ (fresh_backS s s3 (e2.trans (ExB.of e3)) hp) (e2.trans ((ExB.of e3).trans (ExB.of (Ex.new hp)))) (s3.mono (Ex.new hp)) hv upd_same⟩
theorem es_min2 {b : Int} (ha : ∀ H1, ExB D H H1 → Ev ta σ H1 (.int b)) (hb : EvS D tb σ H R) (hr : ∀ y, R y → ∃ i : Int, y = .int i ∧ P (.int (if i < b then i else b))) : EvS D (tCB rMin2 (tCons ta (tCons tb tNil))) σ H P := fun H1 e s Q q =>
  ha H1 e H1 (Ex.refl H1) _ fun H2 e2 => hb H2 (e.trans (ExB.of e2)) (s.mono e2) _ fun y H3 e3 s3 hy => by
    obtain ⟨i, rfl, hP⟩ := hr y hy
    exact ⟨b, i, rfl, q _ H3 ((ExB.of e2).trans e3) s3 hP⟩
theorem es_call3 {R' : List V → Hp → Addr → (V → Hp → Prop) → Prop} {a b c : V} {E : XK} (h1 : ∀ H1, Ev ta σ H1 a) (h2 : ∀ H1, Ev tb σ H1 b) (h3 : ∀ H1, Ev te σ H1 c) (hR : ∀ H1, ExB D H H1 → R' [a, b, c] H1 D fun v _ => P v) : EvS D (tCall (spS R') [] E (tCons ta (tCons tb (tCons te tNil)))) σ H P := fun H1 e s Q q =>
  ea_cons (h1 H1) (ea_cons (h2 H1) (ea_cons (h3 H1) ea_nil)) H1 (Ex.refl H1) _ fun H2 e2 => ⟨D, _, hR H2 (e.trans (ExB.of e2)), s.mono e2, fun v H3 e3 s3 hv => q v H3 ((ExB.of e2).trans e3) s3 hv⟩
end
/-! ### texts -/
def isWord (z : Str) : Prop := z.length = 7 ∧ ∀ c ∈ z.cps.toList, c ∈ letters.cps.toList
theorem letters_len : letters.cps.toList.length = 26 := by decide +kernel
theorem cutS_to (z : Str) (n : Nat) : (cutS z none (some (n : Int))).cps.toList = z.cps.toList.take n := by
  unfold cutS
  rw [HT.sIx_none, HT.sIx_nat, List.drop_zero, Nat.sub_zero]
  show (z.cps.toList.take (min n z.length)) = _
  have hz : z.length = z.cps.toList.length := (Array.length_toList).symm
  by_cases h : n ≤ z.length
  · rw [Nat.min_eq_left h]
  · rw [Nat.min_eq_right (by omega), hz, List.take_length, List.take_of_length_le (by omega)]
theorem joinL_singles : ∀ cs : List Nat, TL.joinL [] (cs.map fun c => [c]) = cs
  | [] => rfl
  | [c] => rfl
  | c :: d :: r => by
    show [c] ++ ([] ++ TL.joinL [] ((d :: r).map fun c => [c])) = _
    rw [joinL_singles (d :: r)]
    rfl
theorem sum_singles : ∀ cs : List Nat, ((cs.map fun c => (⟨#[c]⟩ : Str)).map (·.length)).sum = cs.length
  | [] => rfl
  | c :: r => by
    rw [List.map_cons, List.map_cons, List.sum_cons, sum_singles r, List.length_cons]
    show 1 + r.length = r.length + 1
    omega
theorem len_cps (z : Str) : z.length = z.cps.toList.length := (Array.length_toList).symm
theorem word_join (cs : List Nat) : (Txt.join "" (cs.map fun c => (⟨#[c]⟩ : Str))).cps.toList = cs := by
  rw [TL.join_eq]
  show TL.tl (Str.join _ _) = cs
  rw [TL.tl_join, List.map_map]
  exact joinL_singles cs
theorem isLab_mk {a b : Str} {c n m : Nat} (ha : ∀ x ∈ a.cps.toList, x ∈ letters.cps.toList) (hb : ∀ x ∈ b.cps.toList, x ∈ letters.cps.toList) (hc : c ∈ letters.cps.toList) (h1 : a.length = n) (h2 : b.length ≤ m) (hnm : n + 1 + m ≤ 8) : isLab (a ++ ⟨#[c]⟩ ++ b) := by
  have e : (a ++ (⟨#[c]⟩ : Str) ++ b).cps.toList = a.cps.toList ++ [c] ++ b.cps.toList := by
    show TL.tl (a ++ (⟨#[c]⟩ : Str) ++ b) = _
    rw [TL.tl_append, TL.tl_append]
  have hl : (a ++ (⟨#[c]⟩ : Str) ++ b).length = a.length + 1 + b.length := by
    rw [len_cps, e, List.length_append, List.length_append, len_cps a, len_cps b, List.length_singleton]
  refine ⟨by omega, by omega, fun x hx => ?_⟩
  rw [e] at hx
  rcases List.mem_append.mp hx with h | h
  · rcases List.mem_append.mp h with h | h
    · exact ha x h
    · rw [List.mem_singleton.mp h]
      exact hc
  · exact hb x h
abbrev strsV (zs : List Str) : List V := zs.map V.str
/-! ### _law_labels -/
def spLabels : Sp := spS fun vs H D P => ∃ m : Nat, vs = [.ref D, .int (m : Int)] ∧ m ≤ 100 ∧ P = fun v H2 => ∃ p zs, v = .ref p ∧ H p = none ∧ H2 p = some (.lst (strsV zs)) ∧ zs.length = m ∧ ∀ z ∈ zs, isLab z
theorem letter_at {r : Nat} (h : r < 26) : ∃ c, c ∈ letters.cps.toList ∧ atI letters.cps.toList (r : Int) = some c := by
  have hr : r < letters.cps.toList.length := by rw [letters_len]; exact h
  exact ⟨letters.cps.toList[r], List.getElem_mem hr, atI_nat (List.getElem?_eq_getElem hr)⟩
theorem sc_law_labels : FnScope ["_law_source_here", "_law_many", "_law_letters", "_law_word", "_law_ahead", "_law_first", "_law_step", "_law_labels_here", "_law_k", "_law_behind"] ["_law_source_here", "_law_many"] (defScope s__law_labels) := ⟨rfl, rfl, rfl, by decide +kernel, rfl, by decide +kernel, by decide +kernel⟩
theorem fn__law_labels (T : Txt K mg CD CQ CS CA) : Fn P w K mg base "_law_labels" 2 ["_law_source_here", "_law_many"] spLabels := by
  refine Fn.of T.g__law_labels sc_law_labels (fun _ _ _ _ _ _ us hl => match us, hl with | [_, _], _ => rfl) (fun vs H Q E h => ?_) (fun f cdv A outer s H vs Q E hr h => ?_)
  · obtain ⟨D, P, ⟨m, rfl, _⟩, _⟩ := h
    rfl
  · obtain ⟨D, P', ⟨m, rfl, hm, rfl⟩, s0, k⟩ := h
    refine ⟨_, (pss_cons (ps_set (i := 2) sc_law_labels.nd rfl (Or.inr rfl) pe_str)
  (pss_cons (ps_set (i := 3) sc_law_labels.nd rfl (Or.inl rfl) (pe_join pe_str (pe_lc (own := [("_law_k", 8)]) (g := (gName 8)) rfl sc_law_labels.nd (pi_range1 rfl T.z_range (pa_cons pe_int pa_nil)) (blkOk_by (by kernel_rfl)) (fun _ _ _ _ _ => (pg_name (i := 8) sc_law_labels.nd rfl (Or.inl rfl))) (fun _ _ _ _ _ => pts_nil) (fun _ _ _ _ _ => (pe_ix ix_str (pv 2) (Fn.pe (by exact fn__law_take T) (hr.mono (by decide)) (by rfl) (pa_cons (pv 0) (pa_cons pe_int pa_nil))) (fun _ _ => rfl))))))
  (pss_cons (ps_set (i := 4) sc_law_labels.nd rfl (Or.inl rfl) (pe_slice sl_str (pv 3) po_none (po_some (pe_op op_mul (Fn.pe (by exact fn__law_take T) (hr.mono (by decide)) (by rfl) (pa_cons (pv 0) (pa_cons pe_int pa_nil))) (Fn.pe (by exact fn__law_take T) (hr.mono (by decide)) (by rfl) (pa_cons (pv 0) (pa_cons pe_int pa_nil)))))))
  (pss_cons (ps_set (i := 5) sc_law_labels.nd rfl (Or.inl rfl) (Fn.pe (by exact fn__law_take T) (hr.mono (by decide)) (by rfl) (pa_cons (pv 0) (pa_cons pe_int pa_nil))))
  (pss_cons (ps_set (i := 6) sc_law_labels.nd rfl (Or.inl rfl) (pe_ix ix_list (pe_lst (pa_cons pe_int (pa_cons pe_int (pa_cons pe_int (pa_cons pe_int (pa_cons pe_int (pa_cons pe_int pa_nil))))))) (Fn.pe (by exact fn__law_take T) (hr.mono (by decide)) (by rfl) (pa_cons (pv 0) (pa_cons pe_int pa_nil))) (fun _ _ => rfl)))
  (pss_cons (ps_set (i := 7) sc_law_labels.nd rfl (Or.inl rfl) (pe_lst pa_nil))
  (pss_cons (ps_for PassesOwn.never rfl (pi_range1 rfl T.z_range (pa_cons (pv 1) pa_nil)) (pg_name (i := 8) sc_law_labels.nd rfl (Or.inl rfl)) (pss_cons (ps_set (i := 9) sc_law_labels.nd rfl (Or.inl rfl) (pe_slice sl_str (pv 3) po_none (po_some (Fn.pe (by exact fn__law_take T) (hr.mono (by decide)) (by rfl) (pa_cons (pv 0) (pa_cons (pe_op op_sub pe_int (pe_callB call_len_str (by rfl) T.z_len (by decide +kernel) (pa_cons (pv 4) pa_nil))) pa_nil))))))
  (pss_one (ps_expr (pe_bm PySem.F.plainAttrs_list PySem.F.slot_list_append PySem.F.type_list_append mt_append (pv 7) (pa_cons (pe_op op_add_str (pe_op op_add_str (pv 4) (pe_ix ix_str (pv 2) (pe_op op_mod (pe_op op_add (pv 5) (pe_op op_mul (pv 6) (pv 8))) pe_int) (fun _ _ => rfl))) (pv 9)) pa_nil))))))
  (pss_one (ps_ret (pv 7)))))))))), ?_⟩
    refine q_asg ev_c fun H1 e1 => ?_
    have s1 := s0.mono e1
    have hword : EvS D (tM1 (fun x xs H Q => ∃ a p, ∃ ys : List Str, x = .str a ∧ xs = [.ref p] ∧ (SqL K H p (ys.map V.str) ∨ SqT K H p (ys.map V.str)) ∧ (ys.map (·.length)).sum + ys.length * a.length ≤ 16777216 ∧ Q (.str (Txt.join a ys)) H) (tC (.str "")) (tLc (iRng1 (tCons (tC (.int 7)) tNil)) (gName 8) tYes (tOp rIxS (tVar 2) (tCall spTake [] E0 (tCons (tVar 0) (tCons (tC (.int 26)) tNil)))) [8]))
        [some (.ref D), some (.int (m : Int)), some (.str letters), none, none, none, none, none, none, none] H1 (fun v => ∃ z, v = .str z ∧ isWord z) := fun H2 e2 s2 Q q => by
      refine ⟨⟨_, rfl⟩, ?_⟩
      refine lc_srcW (K := K) (J := Itr 0 7) (n := 7) (fun R h => ⟨7, rfl, by omega, by omega, h⟩) (fun i v _ => ∃ c, c ∈ letters.cps.toList ∧ v = .str ⟨#[c]⟩) (fun _ _ _ _ _ h => h) (by omega) walk_range s2 (fun _ _ _ => trivial) (fun i x Ha Hb hi _ sa y => ?_) _ fun p xs H3 hp e3 s3 hxs hlen hS => ?_
      · obtain ⟨rfl, hy⟩ := y
        refine ⟨_, Ex.refl _, fun R r => r, rfl, fun Q q => ?_⟩
        refine es_op (P := fun v => v = .str letters) (S := fun v => ∃ c, c ∈ letters.cps.toList ∧ v = .str ⟨#[c]⟩) (es_var rfl rfl) (es_takeC (m := 26) rfl (by omega) (by omega)) (fun a b ha hb => ?_) Hb ExB.refl sa Q fun v H2 e s hv => q v H2 e s hv
        obtain ⟨r, hr, rfl⟩ := hb
        subst ha
        obtain ⟨c, hc, hat⟩ := letter_at hr
        exact ⟨_, ⟨c, hc, rfl⟩, fun H1 => rv_ixS (by rw [len_cps, letters_len]; omega) hat⟩
      · obtain ⟨cs, h1, h2⟩ := list_choose (xs := xs) (P := fun j v c => c ∈ letters.cps.toList ∧ v = .str ⟨#[c]⟩) hS
        have hx : xs = (cs.map fun c => (⟨#[c]⟩ : Str)).map V.str := by
          refine List.ext_getElem? fun j => ?_
          rw [List.getElem?_map, List.getElem?_map]
          by_cases hj : j < xs.length
          · have hj2 : j < cs.length := by rw [h1]; exact hj
            rw [List.getElem?_eq_getElem hj, List.getElem?_eq_getElem hj2]
            exact congrArg some (h2 j _ _ (List.getElem?_eq_getElem hj) (List.getElem?_eq_getElem hj2)).2
          · rw [List.getElem?_eq_none (by omega), List.getElem?_eq_none (by omega)]
            rfl
        have hcl : cs.length = 7 := by rw [h1, hlen]
        refine ⟨"", p, cs.map fun c => (⟨#[c]⟩ : Str), rfl, rfl, .inl (sq_of (by rw [hxs, hx])), by rw [sum_singles, List.length_map, hcl]; show 7 + 7 * 0 ≤ 16777216; omega, q _ H3 e3 s3 ⟨_, rfl, by rw [len_cps, word_join, hcl], fun c hc => ?_⟩⟩
        rw [word_join] at hc
        obtain ⟨j, hj⟩ := List.getElem?_of_mem hc
        have hj2 : j < xs.length := by
          rw [← h1]
          exact (List.getElem?_eq_some_iff.mp hj).1
        exact (h2 j _ c (List.getElem?_eq_getElem hj2) hj).1
    refine q_asgS s1 hword fun v H2 e2 s2 ⟨word, hv, hw⟩ => ?_
    subst hv
    have hwl : word.length ≤ 100000 := by rw [hw.1]; omega
    refine q_asgS (P := fun v => ∃ z : Str, v = .str z ∧ z.length ≤ 4 ∧ ∀ c ∈ z.cps.toList, c ∈ letters.cps.toList) s2 (es_slS rfl hwl (es_op (P := isLt 2) (R := isLt 5) (S := isLt 5) (es_takeC (m := 2) rfl (by omega) (by omega)) (es_takeC (m := 5) rfl (by omega) (by omega)) fun x y ⟨r, hr, hx⟩ ⟨q, hq, hy⟩ => ?_) fun y ⟨r, hr, hy⟩ => ⟨r, hy, _, rfl, ?_, fun c hc => ?_⟩) fun v H3 e3 s3 ⟨ahead, hv, hal, hac⟩ => ?_
    · subst hx
      subst hy
      refine ⟨_, ⟨r * q, ?_, rfl⟩, fun H1 => ?_⟩
      · have : r = 0 ∨ r = 1 := by omega
        rcases this with h | h <;> subst h <;> omega
      · have := rv_I (H := H1) (C := CMul) (g := fun i j => .int (i * j)) (i := (r : Int)) (j := (q : Int)) (.inl ⟨by omega, by omega⟩)
        rw [show ((r : Int) * (q : Int)) = ((r * q : Nat) : Int) from (Int.natCast_mul r q).symm] at this
        exact this
    · rw [len_cps, cutS_to, List.length_take]
      omega
    · rw [cutS_to] at hc
      exact hw.2 c (List.mem_of_mem_take hc)
    subst hv
    refine q_asgS s3 (es_takeC (m := 26) rfl (by omega) (by omega)) fun v H4 e4 s4 ⟨f, hf, hv⟩ => ?_
    subst hv
    refine q_asgS (P := fun v => ∃ n : Nat, v = .int (n : Int)) s4 (es_ixC (xs := [.int 1, .int 3, .int 5, .int 7, .int 9, .int 11]) (fun H1 => el_lst (ea_cons ev_c (ea_cons ev_c (ea_cons ev_c (ea_cons ev_c (ea_cons ev_c (ea_cons ev_c ea_nil)))))) (by show 6 ≤ 100000; omega)) (es_takeC (m := 6) rfl (by omega) (by omega)) fun y ⟨r, hr, hy⟩ => ?_) fun v H5 e5 s5 ⟨st, hv⟩ => ?_
    · subst hy
      have : r = 0 ∨ r = 1 ∨ r = 2 ∨ r = 3 ∨ r = 4 ∨ r = 5 := by omega
      rcases this with h | h | h | h | h | h <;> subst h
      · exact ⟨_, _, rfl, rfl, 1, rfl⟩
      · exact ⟨_, _, rfl, rfl, 3, rfl⟩
      · exact ⟨_, _, rfl, rfl, 5, rfl⟩
      · exact ⟨_, _, rfl, rfl, 7, rfl⟩
      · exact ⟨_, _, rfl, rfl, 9, rfl⟩
      · exact ⟨_, _, rfl, rfl, 11, rfl⟩
    subst hv
    have b05 : ExB D H H5 := (ExB.of e1).trans (e2.trans (e3.trans (e4.trans e5)))
    refine q_asgL (el_lst ea_nil (Nat.zero_le _)) fun pl H6 h6 e6 hpl => ?_
    have h60 : H pl = none := fresh_backS s0 s5 b05 h6
    have hpD : pl ≠ D := s5.new h6
    refine q_forI (ei_range1 (j := (m : Int)) (ev_var rfl) (by omega) (by omega)) walk_range (fun i σ' H' => ∃ (v8 v9 : Option V) (zs : List Str), σ' = [some (.ref D), some (.int (m : Int)), some (.str letters), some (.str word), some (.str ahead), some (.int (f : Int)), some (.int (st : Int)), some (.ref pl), v8, v9] ∧ ExB D H H' ∧ Src H' D ∧ H' pl = some (.lst (strsV zs)) ∧ zs.length = i ∧ ∀ z ∈ zs, isLab z)
      (fun H7 e7 => ⟨none, none, [], rfl, b05.trans (ExB.of (e6.trans e7)), s5.mono (e6.trans e7), e7 _ _ hpl, rfl, fun z hz => by simp at hz⟩) (fun _ _ _ _ _ => trivial) ?_ ?_
    · rintro i y σ' H' H'' hi ⟨v8, v9, zs, rfl, b, s, hz, hzl, hzL⟩ ⟨rfl, hy⟩
      have hy : y = .int (i : Int) := by
        rw [hy]
        exact congrArg V.int (by omega)
      subst hy
      have hm8 : ((8 : Int) - (ahead.length : Int)) = ((8 - ahead.length : Nat) : Int) := by omega
      refine q_asgS (P := fun v => ∃ z : Str, v = .str z ∧ z.length ≤ 7 - ahead.length ∧ ∀ c ∈ z.cps.toList, c ∈ letters.cps.toList) s (es_slS rfl hwl (es_take (m := 8 - ahead.length) rfl (fun H1 _ _ => ev_int (ev_op ev_c (ev_lenS (ev_var rfl) (by omega)) rv_I0) hm8) (by omega) (by omega)) fun y ⟨r, hr, hy⟩ => ⟨r, hy, _, rfl, ?_, fun c hc => ?_⟩) fun v H7 e7 s7 ⟨beh, hv, hbl, hbc⟩ => ?_
      · rw [len_cps, cutS_to, List.length_take]
        omega
      · rw [cutS_to] at hc
        exact hw.2 c (List.mem_of_mem_take hc)
      subst hv
      have hmod : ((f : Int) + (st : Int) * (i : Int)) % 26 = (((f + st * i) % 26 : Nat) : Int) := by
        rw [Int.natCast_emod, Int.natCast_add, Int.natCast_mul]
        rfl
      obtain ⟨c, hc, hat⟩ := letter_at (r := (f + st * i) % 26) (Nat.mod_lt _ (by omega))
      have hz7 : H7 pl = some (.lst (strsV zs)) := e7 _ _ hpD hz
      refine s_app hz7 (ev_var rfl) (ev_op (ev_op (ev_var rfl) (ev_op (ev_var rfl) (ev_int (ev_op (ev_op (ev_var rfl) (ev_op (ev_var rfl) (ev_var rfl) (rv_I (.inr ⟨by omega, by omega⟩))) rv_I0) ev_c (rv_I (by decide))) hmod) (rv_ixS (by rw [len_cps, letters_len]; omega) hat)) (rv_addS (by show ahead.length + 1 ≤ 100000; omega))) (ev_var rfl) (rv_addS ?_)) (by rw [List.length_map, hzl]; omega) fun H8 e8 => ?_
      · rw [len_cps]
        show (TL.tl (ahead ++ (⟨#[c]⟩ : Str))).length + _ ≤ _
        rw [TL.tl_append, List.length_append, ← len_cps]
        show ahead.length + 1 + beh.length ≤ _
        omega
      · have e78 : ExB D H H8 := b.trans (e7.trans (ExB.of e8))
        refine ⟨_, _, zs ++ [ahead ++ ⟨#[c]⟩ ++ beh], rfl, fun x o hx hxo => ?_, ?_, ?_, by rw [List.length_append, hzl]; rfl, fun z hz => ?_⟩
        · rw [upd_ne (fun q => by rw [q, h60] at hxo; cases hxo)]
          exact e78 x o hx hxo
        · obtain ⟨n1, n2, n3, hn⟩ := s7
          exact ⟨n1, n2, n3, by rw [upd_ne (fun q => hpD q.symm)]; exact e8 _ _ hn⟩
        · rw [upd_same]
          show _ = some (HO.lst ((zs ++ [ahead ++ ⟨#[c]⟩ ++ beh]).map V.str))
          rw [List.map_append]
          rfl
        · rcases List.mem_append.mp hz with h | h
          · exact hzL z h
          · rw [List.mem_singleton.mp h]
            exact isLab_mk hac hbc hc rfl hbl (by omega)
    · rintro σ' H' ⟨v8, v9, zs, rfl, b, s, hz, hzl, hzL⟩
      rw [Int.toNat_natCast] at hzl
      exact s_ret (ev_var rfl) fun H7 e7 => k _ H7 (b.trans (ExB.of e7)) (s.mono e7) ⟨pl, zs, rfl, h60, e7 _ _ hz, hzl, hzL⟩
end
end Bo
set_option Elab.async false
set_option linter.all false
set_option maxRecDepth 100000
set_option maxHeartbeats 4000000
namespace Bo
open PySem PySem.Spec PyProof.Rows L2 Evl BK BL
section
variable {P : Program} {w : World} {K : PySem.W.Frag} {mg : Str → Option Value} {base : Heap} {CD CQ CS CA : Addr}
/-! ### _law_depth -/
def spDepth : Sp := spS fun vs H D P => ∃ (s a : Nat), vs = [.ref D, .int (s : Int), .int (a : Int)] ∧ a ≤ 1000 ∧ P = fun v _ => ∃ r : Nat, v = .int (r : Int) ∧ 1 ≤ r ∧ r ≤ a + 1 ∧ (a ≠ 0 → 2 ≤ r)
theorem int_nat {a b : Nat} : decide (V.int (a : Int) = V.int (b : Int)) = decide (a = b) := by
  by_cases h : a = b
  · rw [decide_eq_true h, decide_eq_true (by rw [h])]
  · rw [decide_eq_false h, decide_eq_false (fun q => h (by injection q with q; exact Int.ofNat.inj q))]
theorem sc_law_depth : FnScope ["_law_source_here", "_law_shape", "_law_above"] ["_law_source_here", "_law_shape", "_law_above"] (defScope s__law_depth) := ⟨rfl, rfl, rfl, by decide +kernel, rfl, by decide +kernel, by decide +kernel⟩
theorem fn__law_depth (T : Txt K mg CD CQ CS CA) : Fn P w K mg base "_law_depth" 2 ["_law_source_here", "_law_shape", "_law_above"] spDepth := by
  refine Fn.of T.g__law_depth sc_law_depth (fun _ _ _ _ _ _ us hl => match us, hl with | [_, _, _], _ => rfl) (fun vs H Q E h => ?_) (fun f cdv A outer s H vs Q E hr h => ?_)
  · obtain ⟨D, P, ⟨s, a, rfl, _⟩, _⟩ := h
    rfl
  · obtain ⟨D, P', ⟨s, a, rfl, ha, rfl⟩, s0, k⟩ := h
    refine ⟨_, (pss_cons (ps_if (PW.pt (pw_or (pt_cmpR op_eq (pv 2) pe_int (nomark _)) (pw_or1 (PW.pt (pw_and (pt_cmpR op_lt (pv 1) pe_int (nomark _)) (pw_and1 (pt_cmpR op_gt (Fn.pe (by exact fn__law_take T) (hr.mono (by decide)) (by rfl) (pa_cons (pv 0) (pa_cons pe_int pa_nil))) (pv 1) (nomark _)))))))) (pss_one (ps_ret (pe_op op_add (pv 2) pe_int))) pss_nil)
  (pss_one (ps_ret (pe_callB (call_min2 rfl) (by rfl) T.z_min (by decide +kernel) (pa_cons (pe_op op_add (pv 2) pe_int) (pa_cons (pe_op op_add pe_int (Fn.pe (by exact fn__law_take T) (hr.mono (by decide)) (by rfl) (pa_cons (pv 0) (pa_cons (pe_callB (call_max2 rfl) (by rfl) T.z_max (by decide +kernel) (pa_cons pe_int (pa_cons (pv 2) pa_nil))) pa_nil)))) pa_nil)))))), ?_⟩
    refine q_whenS (P := fun b => b = false → a ≠ 0) s0 (est_or (P1 := fun b => b = decide (a = 0)) (P2 := fun _ => True) (est_of (fun H1 _ => et_is (et_test (ev_op (ev_var rfl) ev_c (rv_eq rfl))) (int_nat (b := 0))) rfl) (est_and (P1 := fun _ => True) (P2 := fun _ => True) (est_of (fun H1 _ => et_test (ev_op (ev_var rfl) ev_c rv_I0)) trivial) (est_test (es_op (R := fun v => v = .int (s : Int)) (S := fun v => ∃ b, v = .bl b ∧ True) (es_takeC (m := 4) rfl (by omega) (by omega)) (es_var rfl rfl) fun x y ⟨r, _, hx⟩ hy => ?_)) (fun _ => trivial) (fun _ _ _ => trivial)) (fun _ q => by cases q) (fun _ h _ _ => (decide_eq_false_iff_not.mp h.symm))) (fun _ H1 e1 s1 => ?_) fun h0 H1 e1 s1 => ?_
    · subst hx
      subst hy
      exact ⟨_, ⟨_, rfl, trivial⟩, fun H1 => rv_I0⟩
    · exact s_ret (ev_op (ev_var rfl) ev_c rv_I0) fun H2 e2 => k _ H2 (e1.trans (ExB.of e2)) (s1.mono e2) ⟨a + 1, by rw [Int.natCast_add]; rfl, by omega, by omega, fun h => by omega⟩
    · have ha0 := h0 rfl
      refine s_retS s1 (es_min2 (b := (a : Int) + 1) (P := fun v => ∃ r : Nat, v = .int (r : Int) ∧ 1 ≤ r ∧ r ≤ a + 1 ∧ (a ≠ 0 → 2 ≤ r)) (fun H2 _ => ev_op (ev_var rfl) ev_c rv_I0) (es_op (P := fun v => v = .int 2) (R := isLt a) (S := fun v => ∃ r : Nat, r < a ∧ v = .int ((2 + r : Nat) : Int)) (es_c rfl) (es_take (m := a) rfl (fun H2 _ _ => ev_int (ev_max2 ev_c (ev_var rfl)) (by split <;> omega)) (by omega) (by omega)) fun x y hx ⟨r, hr, hy⟩ => ?_) fun y ⟨r, hr, hy⟩ => ⟨_, hy, ?_⟩) fun v H2 e2 s2 hv => k v H2 (e1.trans e2) s2 hv
      · subst hx
        subst hy
        exact ⟨_, ⟨r, hr, rfl⟩, fun H2 => by
          have := rv_I0 (H := H2) (g := fun i j => .int (i + j)) (i := 2) (j := (r : Int))
          rw [show ((2 : Int) + (r : Int)) = ((2 + r : Nat) : Int) by omega] at this
          exact this⟩
      · by_cases h : ((2 + r : Nat) : Int) < (a : Int) + 1
        · rw [if_pos h]
          exact ⟨2 + r, rfl, by omega, by omega, fun _ => by omega⟩
        · rw [if_neg h]
          exact ⟨a + 1, by rw [Int.natCast_add]; rfl, by omega, by omega, fun _ => by omega⟩
/-! ### _law_rows -/
structure RowsOk (most dp : Nat) (rows : List DR) : Prop where
  good : BM.Good (BM.dds rows)
  many : rows.length ≤ most
  lab : ∀ r ∈ rows, isLab r.1
  deep : ∀ r ∈ rows, r.2 ≤ dp
def spRows (K : PySem.W.Frag) : Sp := spS fun vs H D P => ∃ (l : Addr) (most deep : Nat) (zs : List Str), vs = [.ref D, .ref l, .int (most : Int), .int (deep : Int)] ∧ SqL K H l (strsV zs) ∧ 0 < zs.length ∧ zs.length < 1000 ∧ (∀ z ∈ zs, isLab z) ∧ 0 < most ∧ most ≤ 1000 ∧ 2 ≤ deep ∧ deep ≤ 1000 ∧
  P = fun v H2 => ∃ p as rows, v = .ref p ∧ H p = none ∧ H2 p = some (.lst (refsV as)) ∧ Tups K H2 as (rows.map rowD) ∧ RowsOk most deep rows
/-- rows so far -/
structure RowsTo (dp : Nat) (rows : List DR) (a : Nat) : Prop where
  lab : ∀ r ∈ rows, isLab r.1
  deep : ∀ r ∈ rows, r.2 ≤ dp
  last : a = if rows.length = 0 then 0 else BM.dep (BM.dds rows) (rows.length - 1)
  good : 0 < rows.length → BM.Good (BM.dds rows)
  le : a ≤ dp
theorem RowsTo.snoc {deep : Nat} {rows : List DR} {a a' : Nat} {z : Str} (h : RowsTo deep rows a) (hz : isLab z) (h1 : 1 ≤ a') (h2 : a' ≤ a + 1) (h3 : a ≠ 0 → 2 ≤ a') (h4 : a' ≤ deep) : RowsTo deep (rows ++ [(z, a')]) a' := by
  have hd : ∀ i, i < rows.length → BM.dep (BM.dds (rows ++ [(z, a')])) i = BM.dep (BM.dds rows) i := fun i hi => by
    rw [BM.dds_dep (r := rows[i]) (by rw [List.getElem?_append_left hi, List.getElem?_eq_getElem hi]), BM.dds_dep (List.getElem?_eq_getElem hi)]
  have hl : BM.dep (BM.dds (rows ++ [(z, a')])) rows.length = a' := BM.dds_dep (r := (z, a')) (by rw [List.getElem?_append_right (Nat.le_refl _), Nat.sub_self]; rfl)
  have hlen : (BM.dds (rows ++ [(z, a')])).length = rows.length + 1 := by
    rw [BM.dds_len, List.length_append]
    rfl
  refine ⟨fun r hr => ?_, fun r hr => ?_, ?_, fun _ => ⟨by omega, ?_, fun i h0 hi => ?_, fun i h0 hi => ?_⟩, h4⟩
  · rcases List.mem_append.mp hr with q | q
    · exact h.lab r q
    · rw [List.mem_singleton.mp q]
      exact hz
  · rcases List.mem_append.mp hr with q | q
    · exact h.deep r q
    · rw [List.mem_singleton.mp q]
      exact h4
  · rw [List.length_append, List.length_singleton, if_neg (by omega), Nat.add_sub_cancel, hl]
  · by_cases hr : rows.length = 0
    · rw [hr] at hl
      rw [hl]
      have := h.last
      rw [if_pos hr] at this
      omega
    · rw [hd 0 (by omega)]
      exact (h.good (by omega)).first
  · rw [hlen] at hi
    by_cases hir : i < rows.length
    · rw [hd i hir]
      exact (h.good (by omega)).low i h0 (by rw [BM.dds_len]; exact hir)
    · have : i = rows.length := by omega
      subst this
      rw [hl]
      refine h3 fun q => ?_
      have hla := h.last
      rw [if_neg (by omega)] at hla
      have := (h.good (by omega)).one_le (i := rows.length - 1) (by rw [BM.dds_len]; omega)
      omega
  · rw [hlen] at hi
    by_cases hir : i < rows.length
    · rw [hd i hir, hd (i - 1) (by omega)]
      exact (h.good (by omega)).step i h0 (by rw [BM.dds_len]; exact hir)
    · have : i = rows.length := by omega
      subst this
      rw [hl, hd _ (by omega)]
      have hla := h.last
      rw [if_neg (by omega)] at hla
      omega
theorem sc_law_rows : FnScope ["_law_source_here", "_law_labels_here", "_law_most", "_law_deep", "_law_shape", "_law_rows_here", "_law_above", "_law_k"] ["_law_source_here", "_law_labels_here", "_law_most", "_law_deep"] (defScope s__law_rows) := ⟨rfl, rfl, rfl, by decide +kernel, rfl, by decide +kernel, by decide +kernel⟩
theorem fn__law_rows (T : Txt K mg CD CQ CS CA) : Fn P w K mg base "_law_rows" 3 ["_law_source_here", "_law_labels_here", "_law_most", "_law_deep"] (spRows K) := by
  refine Fn.of T.g__law_rows sc_law_rows (fun _ _ _ _ _ _ us hl => match us, hl with | [_, _, _, _], _ => rfl) (fun vs H Q E h => ?_) (fun f cdv A outer s H vs Q E hr h => ?_)
  · obtain ⟨D, P, ⟨l, most, deep, zs, rfl, _⟩, _⟩ := h
    rfl
  · obtain ⟨D, P', ⟨l, most, deep, zs, rfl, hzs, hz0, hz1, hzL, hm0, hm1, hd0, hd1, rfl⟩, s0, k⟩ := h
    refine ⟨_, (pss_cons (ps_set (i := 4) sc_law_rows.nd rfl (Or.inl rfl) (Fn.pe (by exact fn__law_take T) (hr.mono (by decide)) (by rfl) (pa_cons (pv 0) (pa_cons pe_int pa_nil))))
  (pss_cons (ps_set (i := 5) sc_law_rows.nd rfl (Or.inl rfl) (pe_lst pa_nil))
  (pss_cons (ps_set (i := 6) sc_law_rows.nd rfl (Or.inl rfl) pe_int)
  (pss_cons (ps_for PassesOwn.never rfl (pi_range1 rfl T.z_range (pa_cons (pe_op op_add pe_int (Fn.pe (by exact fn__law_take T) (hr.mono (by decide)) (by rfl) (pa_cons (pv 0) (pa_cons (pv 2) pa_nil)))) pa_nil)) (pg_name (i := 7) sc_law_rows.nd rfl (Or.inl rfl)) (pss_cons (ps_set (i := 6) sc_law_rows.nd rfl (Or.inl rfl) (pe_callB (call_min2 rfl) (by rfl) T.z_min (by decide +kernel) (pa_cons (pv 3) (pa_cons (Fn.pe (by exact fn__law_depth T) (hr.mono (by decide)) (by rfl) (pa_cons (pv 0) (pa_cons (pv 4) (pa_cons (pv 6) pa_nil)))) pa_nil))))
  (pss_one (ps_expr (pe_bm PySem.F.plainAttrs_list PySem.F.slot_list_append PySem.F.type_list_append mt_append (pv 5) (pa_cons (pe_tup (pa_cons (pe_ix ix_list (pv 1) (Fn.pe (by exact fn__law_take T) (hr.mono (by decide)) (by rfl) (pa_cons (pv 0) (pa_cons (pe_callB call_len_seq (by rfl) T.z_len (by decide +kernel) (pa_cons (pv 1) pa_nil)) pa_nil))) (fun _ _ => rfl)) (pa_cons (pv 6) pa_nil))) pa_nil))))))
  (pss_one (ps_ret (pv 5))))))), ?_⟩
    refine q_asgS s0 (es_takeC (m := 4) rfl (by omega) (by omega)) fun v H1 e1 s1 ⟨sh, _, hv⟩ => ?_
    subst hv
    refine q_asgL (el_lst ea_nil (Nat.zero_le _)) fun pl H2 h2 e2 hpl => ?_
    have hpD : pl ≠ D := s1.new h2
    have h20 : H pl = none := fresh_backS s0 s1 e1 h2
    refine q_asg ev_c fun H3 e3 => ?_
    have s3 := s1.mono (e2.trans e3)
    have b03 : ExB D H H3 := e1.trans (ExB.of (e2.trans e3))
    refine es_op (P := fun v => v = .int 1) (R := isLt most) (S := fun v => ∃ n : Nat, n ≤ most ∧ 0 < n ∧ v = .int (n : Int)) (es_c rfl) (es_take (m := most) rfl (fun H2 _ _ => ev_var rfl) (by omega) (by omega)) (fun x y hx ⟨r, hr, hy⟩ => ?_) H3 ExB.refl s3 _ fun v H4 e4 s4 ⟨n, hn, hn0, hv⟩ => ?_
    · subst hx
      subst hy
      refine ⟨_, ⟨1 + r, by omega, by omega, rfl⟩, fun H2 => ?_⟩
      have := rv_I0 (H := H2) (g := fun i j => .int (i + j)) (i := 1) (j := (r : Int))
      rw [show ((1 : Int) + (r : Int)) = ((1 + r : Nat) : Int) by omega] at this
      exact this
    subst hv
    refine ⟨(n : Int), rfl, by omega, by omega, ?_⟩
    refine for_it (walk_range (lo := 0) (n := (n : Int).toNat)) (fun i σ' H' => ∃ (v7 : Option V) (as : List Addr) (rows : List DR) (a : Nat), σ' = [some (.ref D), some (.ref l), some (.int (most : Int)), some (.int (deep : Int)), some (.int (sh : Int)), some (.ref pl), some (.int (a : Int)), v7] ∧ ExB D H H' ∧ Src H' D ∧ H' pl = some (.lst (refsV as)) ∧ Tups K H' as (rows.map rowD) ∧ rows.length = i ∧ RowsTo deep rows a)
      ⟨none, [], [], 0, rfl, b03.trans e4, s4, e4 _ _ hpD (e3 _ _ hpl), ⟨rfl, fun i a r h => by simp at h⟩, rfl, ⟨fun r h => by simp at h, fun r h => by simp at h, rfl, fun h => by simp at h, Nat.zero_le _⟩⟩ (fun _ _ _ _ _ => trivial) ?_ ?_
    · rintro i y σ' H' H'' hi ⟨v7, as, rows, a, rfl, b, s, hpl', hT, hlen, hR⟩ ⟨rfl, hy⟩
      have hal : as.length = rows.length := by rw [hT.len, List.length_map]
      refine q_asgS (P := fun v => ∃ a' : Nat, v = .int (a' : Int) ∧ 1 ≤ a' ∧ a' ≤ a + 1 ∧ (a ≠ 0 → 2 ≤ a') ∧ a' ≤ deep) s (es_min2 (b := (deep : Int)) (fun H2 _ => ev_var rfl) (es_call3 (P := fun v => ∃ r : Nat, v = .int (r : Int) ∧ 1 ≤ r ∧ r ≤ a + 1 ∧ (a ≠ 0 → 2 ≤ r)) (fun H2 => ev_var rfl) (fun H2 => ev_var rfl) (fun H2 => ev_var rfl) fun H2 _ => ⟨sh, a, rfl, by have := hR.le; omega, rfl⟩) fun y ⟨r, hy, r1, r2, r3⟩ => ⟨_, hy, ?_⟩) fun v H5 e5 s5 ⟨a', hv, a1, a2, a3, a4⟩ => ?_
      · by_cases h : (r : Int) < (deep : Int)
        · rw [if_pos h]
          exact ⟨r, rfl, r1, r2, r3, by omega⟩
        · rw [if_neg h]
          exact ⟨deep, rfl, by omega, by omega, fun _ => by omega, by omega⟩
      subst hv
      refine s_appX (e5 _ _ hpD hpl') (ev_var rfl) (by rw [List.length_map, hal, hlen]; omega) fun H6 e6 Q q => ?_
      have s6 := s5.mono e6
      have b6 : ExB D H'' H6 := e5.trans (ExB.of e6)
      refine es_tup2 (P := fun v => ∃ z, isLab z ∧ v = .str z) (w := .int (a' : Int)) (es_ixL (xs := strsV zs) rfl s6 (exs_l s0 (b.trans b6) hzs) (es_take (m := zs.length) rfl (fun H7 b7 s7 => ev_int (ev_len (ev_var rfl) (exs_l s0 ((b.trans b6).trans b7) hzs)) (by rw [List.length_map])) hz0 (by omega)) fun y ⟨r, hr, hy⟩ => ⟨_, .str zs[r], hy, atI_nat (by rw [List.getElem?_map, List.getElem?_eq_getElem hr]; rfl), _, hzL _ (List.getElem_mem hr), rfl⟩) (fun H7 _ => ev_var rfl) H6 ExB.refl s6 Q fun p v H7 hp b7 s7 ⟨z, hz, hv⟩ htup => ?_
      subst hv
      have hplne : p ≠ pl := fun w => by
        rw [w, b6 _ _ hpD hpl'] at hp
        cases hp
      have b67 : ExB D H'' H7 := b6.trans b7
      refine q _ H7 (b67 _ _ hpD hpl') ⟨_, as ++ [p], rows ++ [(z, a')], a', rfl, fun x o hx hxo => ?_, ?_, ?_, ?_, by rw [List.length_append, hlen]; rfl, hR.snoc hz a1 a2 a3 a4⟩
      · rw [upd_ne (fun w => by rw [w, h20] at hxo; cases hxo)]
        exact (b.trans b67) x o hx hxo
      · obtain ⟨n1, n2, n3, hn⟩ := s7
        exact ⟨n1, n2, n3, by rw [upd_ne (fun w => hpD w.symm)]; exact hn⟩
      · rw [upd_same, refs_append]
        rfl
      · rw [List.map_append]
        refine Tups.append ⟨by rw [hT.len], fun j c r h1 h2 => ?_⟩ ⟨rfl, fun j c r h1 h2 => ?_⟩
        · have h3 := exs_t s b67 (hT.at_ j c r h1 h2)
          rcases h3 with h3 | h3
          · refine .inl ?_
            have hc : c ≠ pl := fun w => by
              rw [w] at h3
              rcases h3 with h3 | ⟨o, h3⟩ <;> rw [b67 _ _ hpD hpl'] at h3 <;> cases h3
            rcases h3 with h3 | ⟨o, h3⟩
            · exact .inl (by rw [upd_ne hc]; exact h3)
            · exact .inr ⟨o, by rw [upd_ne hc]; exact h3⟩
          · exact .inr h3
        · cases j with
          | zero =>
            cases h1
            cases h2
            exact st_of (by rw [upd_ne hplne]; exact htup)
          | succ j => simp at h1
    · rintro σ' H' ⟨v7, as, rows, a, rfl, b, s, hpl', hT, hlen, hR⟩
      rw [Int.toNat_natCast] at hlen
      exact s_ret (ev_var rfl) fun H5 e5 => k _ H5 (b.trans (ExB.of e5)) (s.mono e5) ⟨pl, as, rows, rfl, h20, e5 _ _ hpl', hT.mono e5, hR.good (by omega), by omega, hR.lab, hR.deep⟩
end
end Bo
set_option Elab.async false
set_option linter.all false
set_option maxRecDepth 100000
set_option maxHeartbeats 4000000
namespace Bo
open PySem PySem.Spec PyProof.Rows L2 Evl BK BL
section
variable {P : Program} {w : World} {K : PySem.W.Frag} {mg : Str → Option Value} {base : Heap} {CD CQ CS CA : Addr}
section
variable {σ : L2.St} {D : Addr} {H : Hp} {te : TE} {tg : TA} {N : Ends} {tz : TS} {vs : List V} {P : V → Hp → Prop} {R' : List V → Hp → Addr → (V → Hp → Prop) → Prop} {E : XK}
theorem es_callP (h : EvA tg σ H vs) (s : Src H D) (hR : ∀ H1, Ex H H1 → ∃ P', R' (vs ++ []) H1 D P' ∧ ∀ v H2, P' v H2 → P v H2) (Q : VK) (q : ∀ v H2, ExB D H H2 → Src H2 D → P v H2 → Q v H2) : tCall (spS R') [] E tg σ H Q :=
  h H (Ex.refl H) _ fun H1 e1 => by
    obtain ⟨P', h1, h2⟩ := hR H1 e1
    exact ⟨D, P', h1, s.mono e1, fun v H2 e2 s2 hP => q v H2 ((ExB.of e1).trans e2) s2 (h2 v H2 hP)⟩
theorem lc_call {g : TG} {ws : List Nat} {Q : VK} (h : EvA tg σ H vs) (s : Src H D) (hR : ∀ H1, Ex H H1 → ∃ P', R' (vs ++ []) H1 D P' ∧ ∀ v H2, P' v H2 → P v H2) (k : ∀ v H2, ExB D H H2 → Src H2 D → P v H2 → ∃ p, v = .ref p ∧ (∃ xs, SqL K H2 p xs) ∧ tLc (fun _ H R => R (Itl K p) H) g tYes te ws σ H2 Q) : tLc (iList K (tCall (spS R') [] E tg)) g tYes te ws σ H Q :=
  es_callP h s hR _ fun v H2 e2 s2 hP => k v H2 e2 s2 hP
theorem s_retX (h : te σ H N.rt) : tRet te N σ H := h
theorem q_asgX {i : Nat} (h : te σ H fun v H1 => tz N (σ.set i (some v)) H1) : tSeq (tAsg te (gName i)) tz N σ H := h
end
/-! ### _law_steps -/
structure StepsOk (most : Nat) (rows : List QR) : Prop where
  good : BM.Good (BM.qds rows)
  many : rows.length ≤ most
  lab : ∀ r ∈ rows, isLab r.2.1
def spSteps (K : PySem.W.Frag) : Sp := spS fun vs H D P => ∃ (l : Addr) (most deep : Nat) (zs : List Str), vs = [.ref D, .ref l, .int (most : Int), .int (deep : Int)] ∧ SqL K H l (strsV zs) ∧ 0 < zs.length ∧ zs.length < 1000 ∧ (∀ z ∈ zs, isLab z) ∧ 0 < most ∧ most ≤ 1000 ∧ 2 ≤ deep ∧ deep ≤ 1000 ∧
  P = fun v H2 => ∃ p as rows, v = .ref p ∧ H p = none ∧ H2 p = some (.lst (refsV as)) ∧ Tups K H2 as (rows.map rowQ) ∧ StepsOk most rows
theorem zip_at {bs : List Bool} {rows : List DR} {j : Nat} {q : QR} (h : (bs.zip rows)[j]? = some q) : bs[j]? = some q.1 ∧ rows[j]? = some q.2 := List.getElem?_zip_eq_some.mp h
theorem zip_qds {bs : List Bool} {rows : List DR} (h : bs.length = rows.length) : BM.qds (bs.zip rows) = BM.dds rows := by
  unfold BM.qds BM.dds
  have : ((bs.zip rows : List QR).map fun q => q.2.2) = ((bs.zip rows).map Prod.snd).map Prod.snd := by
    rw [List.map_map]
    rfl
  rw [this, List.map_snd_zip (by omega)]
theorem sc_law_steps : FnScope ["_law_source_here", "_law_labels_here", "_law_most", "_law_deep", "_law_row"] ["_law_source_here", "_law_labels_here", "_law_most", "_law_deep"] (defScope s__law_steps) := ⟨rfl, rfl, rfl, by decide +kernel, rfl, by decide +kernel, by decide +kernel⟩
theorem fn__law_steps (T : Txt K mg CD CQ CS CA) : Fn P w K mg base "_law_steps" 4 ["_law_source_here", "_law_labels_here", "_law_most", "_law_deep"] (spSteps K) := by
  refine Fn.of T.g__law_steps sc_law_steps (fun _ _ _ _ _ _ us hl => match us, hl with | [_, _, _, _], _ => rfl) (fun vs H Q E h => ?_) (fun f cdv A outer s H vs Q E hr h => ?_)
  · obtain ⟨D, P, ⟨l, most, deep, zs, rfl, _⟩, _⟩ := h
    rfl
  · obtain ⟨D, P', ⟨l, most, deep, zs, rfl, hzs, hz0, hz1, hzL, hm0, hm1, hd0, hd1, rfl⟩, s0, k⟩ := h
    refine ⟨_, (pss_one (ps_ret (pe_lc (own := [("_law_row", 4)]) (g := (gName 4)) rfl sc_law_steps.nd (pi_list (Fn.pe (by exact fn__law_rows T) (hr.mono (by decide)) (by rfl) (pa_cons (pv 0) (pa_cons (pv 1) (pa_cons (pv 2) (pa_cons (pv 3) pa_nil)))))) (blkOk_by (by kernel_rfl)) (fun _ _ _ _ _ => (pg_name (i := 4) sc_law_steps.nd rfl (Or.inl rfl))) (fun _ _ _ _ _ => pts_nil) (fun _ _ _ _ _ => (pe_op (show OpR _ (binaryOp .Add) (rCatT K) from op_catT) (pe_tup (pa_cons (pe_ix (show IxR _ (rIxL K) from ix_list) (pe_lst (pa_cons pe_str (pa_cons pe_str pa_nil))) (Fn.pe (by exact fn__law_take T) (hr.mono (by decide)) (by rfl) (pa_cons (pv 0) (pa_cons pe_int pa_nil))) (fun _ _ => rfl)) pa_nil)) (pv 4)))))), ?_⟩
    refine s_retX (lc_call (P := fun v H2 => ∃ (p : Addr) (as : List Addr) (rows : List DR), v = .ref p ∧ H2 p = some (.lst (refsV as)) ∧ Tups K H2 as (rows.map rowD) ∧ RowsOk most deep rows) (ea_cons (ev_var rfl) (ea_cons (ev_var rfl) (ea_cons (ev_var rfl) (ea_cons (ev_var rfl) ea_nil)))) s0 (fun H1 e1 => ⟨_, ⟨l, most, deep, zs, rfl, ex_l e1 hzs, hz0, hz1, hzL, hm0, hm1, hd0, hd1, rfl⟩, fun v H2 ⟨p, as, rows, h1, _, h2, h3, h4⟩ => ⟨p, as, rows, h1, h2, h3, h4⟩⟩) fun v H2 e2 s2 ⟨pr, as, rows, hv, hpr, hT, hR⟩ => ?_)
    subst hv
    refine ⟨pr, rfl, ⟨_, sq_of hpr⟩, ?_⟩
    have hprD : pr ≠ D := s2.ne hpr fun k q => by cases q
    have hal : as.length = rows.length := by rw [hT.len, List.length_map]
    refine lc_src (K := K) (te := tOp (rCatT K) (tTup (tCons (tOp (rIxL K) (tLst (tCons (tC (.str "/")) (tCons (tC (.str "//")) tNil))) (tCall spTake [] E0 (tCons (tVar 0) (tCons (tC (.int 2)) tNil)))) tNil)) (tVar 4)) (J := Itl K pr) (n := (refsV as).length) (G := fun H => SqL K H pr (refsV as)) (Y := YAt (refsV as)) (D := D) (fun i v H => ∃ (b : Bool) (a : Addr), v = .ref a ∧ ∃ r, rows[i]? = some r ∧ SqT K H a (rowQ (b, r))) (fun i v Ha Hb hab ⟨b, a, hv, r, hr, hs⟩ => ⟨b, a, hv, r, hr, hab _ _ hs⟩) (by rw [List.length_map, hal]; have := hR.many; omega) walk_list s2 (fun H' e s => sq_of (e _ _ hprD hpr)) (fun i y Ha Hb hi ea sa hy => ?_) (fun v H' => Q v H') fun p xs H3 hp e3 s3 hxs hlen hS => ?_
    · obtain ⟨rfl, hy⟩ := hy
      obtain ⟨c, hc, rfl⟩ := refs_back hy
      rw [List.length_map, hal] at hi
      have hrow : SqT K Hb c (rowD rows[i]) := exs_t s2 ea (hT.at_ i c _ hc (row_at hi))
      refine ⟨_, Ex.refl _, fun R r => r, rfl, fun Q q => ?_⟩
      refine es_ixC (P := fun v => ∃ b : Bool, v = .str (wayS b)) (xs := [.str "/", .str "//"]) (fun H1 => el_lst (ea_cons ev_c (ea_cons ev_c ea_nil)) (by show 2 ≤ 100000; omega)) (es_takeC (m := 2) rfl (by omega) (by omega)) (fun y ⟨r, hr, hy⟩ => ?_) Hb ExB.refl sa _ fun v H4 e4 s4 ⟨b, hv⟩ => ?_
      · have : r = 0 ∨ r = 1 := by omega
        rcases this with h | h <;> subst h
        · exact ⟨_, _, hy, rfl, false, rfl⟩
        · exact ⟨_, _, hy, rfl, true, rfl⟩
      subst hv
      refine ⟨sz_of (by show 1 ≤ 100000; omega), fun t1 ht1 => ⟨_, rfl, t1, c, [.str (wayS b)], rowD rows[i], rfl, rfl, st_of upd_same, ex_t (Ex.new ht1) (exs_t sa e4 hrow), by simp, sz_of (by show 1 + 2 ≤ 100000; omega), fun h => (by cases h), fun _ t2 ht2 => q _ _ (e4.trans (ExB.of ((Ex.new ht1).trans (Ex.new ht2)))) (s4.mono ((Ex.new ht1).trans (Ex.new ht2))) ⟨b, t2, rfl, rows[i], List.getElem?_eq_getElem hi, st_of upd_same⟩⟩⟩
    · obtain ⟨bs, h1, h2⟩ := list_choose (xs := xs) (P := fun j v (q : Bool × Addr) => v = .ref q.2 ∧ ∃ r, rows[j]? = some r ∧ SqT K H3 q.2 (rowQ (q.1, r))) fun j v hv => by
        obtain ⟨b, a, h⟩ := hS j v hv
        exact ⟨(b, a), h⟩
      rw [List.length_map, hal] at hlen
      have hx : xs = refsV (bs.map (·.2)) := by
        refine List.ext_getElem? fun j => ?_
        rw [List.getElem?_map, List.getElem?_map]
        by_cases hj : j < xs.length
        · have hj2 : j < bs.length := by rw [h1]; exact hj
          rw [List.getElem?_eq_getElem hj, List.getElem?_eq_getElem hj2]
          exact congrArg some (h2 j _ _ (List.getElem?_eq_getElem hj) (List.getElem?_eq_getElem hj2)).1
        · rw [List.getElem?_eq_none (by omega), List.getElem?_eq_none (by omega)]
          rfl
      have hbl : (bs.map (·.1)).length = rows.length := by rw [List.length_map, h1, hlen]
      have b03 : ExB D H H3 := e2.trans e3
      have hzl : ((bs.map (·.1)).zip rows).length = rows.length := by rw [List.length_zip, hbl, Nat.min_self]
      refine k _ H3 b03 s3 ⟨p, bs.map (·.2), (bs.map (·.1)).zip rows, rfl, fresh_backS s0 s2 e2 hp, by rw [hxs, hx], ⟨by rw [List.length_map, List.length_map, hzl, h1, hlen], fun j a q hj hq => ?_⟩, ⟨by rw [zip_qds hbl]; exact hR.good, by rw [hzl]; exact hR.many, fun q hq => ?_⟩⟩
      · rw [List.getElem?_map] at hj hq
        have hjb : j < bs.length := by
          by_cases h : j < bs.length
          · exact h
          · rw [List.getElem?_eq_none (by omega)] at hj
            cases hj
        rw [List.getElem?_eq_getElem hjb] at hj
        cases hj
        have hjx : j < xs.length := by omega
        obtain ⟨_, r, hr, hs⟩ := h2 j _ _ (List.getElem?_eq_getElem hjx) (List.getElem?_eq_getElem hjb)
        cases hz : ((bs.map (·.1)).zip rows)[j]? with
        | none => rw [hz] at hq; cases hq
        | some q' =>
          rw [hz] at hq
          cases hq
          obtain ⟨h3, h4⟩ := zip_at hz
          rw [List.getElem?_map, List.getElem?_eq_getElem hjb] at h3
          rw [hr] at h4
          have h5 : bs[j].1 = q'.1 := Option.some.inj h3
          have h6 : r = q'.2 := Option.some.inj h4
          rw [← show (q'.1, q'.2) = q' from rfl, ← h5, ← h6]
          exact hs
      · obtain ⟨j, hj⟩ := List.getElem?_of_mem hq
        exact hR.lab _ (List.mem_of_getElem? (zip_at hj).2)
/-! ### _law_question -/
def spQuestion (K : PySem.W.Frag) : Sp := spS fun vs H D P => ∃ (l : Addr) (most : Nat) (zs : List Str), vs = [.ref D, .ref l, .int (most : Int)] ∧ SqL K H l (strsV zs) ∧ 0 < zs.length ∧ zs.length < 1000 ∧ (∀ z ∈ zs, isLab z) ∧ 0 < most ∧ most ≤ 1000 ∧
  P = fun v H2 => ∃ t p as rows w, v = .ref t ∧ H2 t = some (.tup [.ref p, .int ((w : Nat) : Int)]) ∧ H p = none ∧ H2 p = some (.lst (refsV as)) ∧ Tups K H2 as (rows.map rowQ) ∧ StepsOk most rows ∧ w < rows.length
theorem sc_law_question : FnScope ["_law_source_here", "_law_labels_here", "_law_most", "_law_rows_here"] ["_law_source_here", "_law_labels_here", "_law_most"] (defScope s__law_question) := ⟨rfl, rfl, rfl, by decide +kernel, rfl, by decide +kernel, by decide +kernel⟩
theorem fn__law_question (T : Txt K mg CD CQ CS CA) : Fn P w K mg base "_law_question" 5 ["_law_source_here", "_law_labels_here", "_law_most"] (spQuestion K) := by
  refine Fn.of T.g__law_question sc_law_question (fun _ _ _ _ _ _ us hl => match us, hl with | [_, _, _], _ => rfl) (fun vs H Q E h => ?_) (fun f cdv A outer s H vs Q E hr h => ?_)
  · obtain ⟨D, P, ⟨l, most, zs, rfl, _⟩, _⟩ := h
    rfl
  · obtain ⟨D, P', ⟨l, most, zs, rfl, hzs, hz0, hz1, hzL, hm0, hm1, rfl⟩, s0, k⟩ := h
    refine ⟨_, (pss_cons (ps_set (i := 3) sc_law_question.nd rfl (Or.inl rfl) (Fn.pe (by exact fn__law_steps T) (hr.mono (by decide)) (by rfl) (pa_cons (pv 0) (pa_cons (pv 1) (pa_cons (pv 2) (pa_cons pe_int pa_nil))))))
  (pss_one (ps_ret (pe_tup (pa_cons (pv 3) (pa_cons (Fn.pe (by exact fn__law_take T) (hr.mono (by decide)) (by rfl) (pa_cons (pv 0) (pa_cons (pe_callB call_len_seq (by rfl) T.z_len (by decide +kernel) (pa_cons (pv 3) pa_nil)) pa_nil))) pa_nil)))))), ?_⟩
    refine q_asgX (es_callP (P := fun v H2 => ∃ (p : Addr) (as : List Addr) (rows : List QR), v = .ref p ∧ H p = none ∧ H2 p = some (.lst (refsV as)) ∧ Tups K H2 as (rows.map rowQ) ∧ StepsOk most rows) (ea_cons (ev_var rfl) (ea_cons (ev_var rfl) (ea_cons (ev_var rfl) (ea_cons ev_c ea_nil)))) s0 (fun H1 e1 => ⟨_, ⟨l, most, 30, zs, rfl, ex_l e1 hzs, hz0, hz1, hzL, hm0, hm1, by omega, by omega, rfl⟩, fun v H2 ⟨p, as, rows, h1, h0, h2, h3, h4⟩ => ⟨p, as, rows, h1, fresh_back e1 h0, h2, h3, h4⟩⟩) _ fun v H2 e2 s2 ⟨p, as, rows, hv, hp0, hp, hT, hR⟩ => ?_)
    subst hv
    have hal : as.length = rows.length := by rw [hT.len, List.length_map]
    have hpD : p ≠ D := s2.ne hp fun k q => by cases q
    have hpos : 0 < rows.length := by
      have := hR.good.pos
      rw [BM.qds_len] at this
      exact this
    refine ⟨_, rfl, es_take (m := rows.length) rfl (fun H7 b7 s7 => ev_int (ev_len (ev_var rfl) (sq_of (b7 _ _ hpD hp))) (by rw [List.length_map, hal])) hpos (by have := hR.many; omega) H2 ExB.refl s2 _ fun v H3 e3 s3 ⟨w, hw, hv⟩ => ?_⟩
    subst hv
    refine ⟨sz_of (by show 2 ≤ 100000; omega), fun t ht => k _ _ (e2.trans (e3.trans (ExB.of (Ex.new ht)))) (s3.mono (Ex.new ht)) ⟨t, p, as, rows, w, rfl, upd_same, ?_, Ex.new ht _ _ (e3 _ _ hpD hp), ?_, hR, hw⟩⟩
    · exact hp0
    · exact ⟨hT.len, fun i a r h1 h2 => ex_t (Ex.new ht) (exs_t s2 e3 (hT.at_ i a r h1 h2))⟩
end
end Bo
set_option Elab.async false
set_option linter.all false
set_option maxRecDepth 100000
set_option maxHeartbeats 4000000
namespace Bo
open PySem PySem.Spec PyProof.Rows L2 Evl BK BL
section
variable {P : Program} {w : World} {K : PySem.W.Frag} {mg : Str → Option Value} {base : Heap} {CD CQ CS CA : Addr}
/-! ### _law_beneath -/
abbrev kP (q : Nat × Nat) : List Key := [kI q.1, kI q.2]
theorem kP_inj : ∀ a b, kP a = kP b → a = b := fun a b h => by
  injection h with h1 h2
  injection h2 with h2 _
  have e1 := kI_inj _ _ h1
  have e2 := kI_inj _ _ h2
  cases a
  cases b
  cases e1
  cases e2
  rfl
/-- a dict of the pairs -/
def PrAt (H : Hp) (d : Addr) (ds : List Nat) (w : Bool) : Prop := ∃ prs, Rd H d (.dT (dkv kP prs)) ∧ ∀ a b, (a, b) ∈ prs ↔ b < ds.length ∧ BM.Rel ds w a b
theorem PrAt.mono {H H' : Hp} {d : Addr} {ds : List Nat} {w : Bool} (e : Ex H H') (h : PrAt H d ds w) : PrAt H' d ds w := let ⟨p, h1, h2⟩ := h; ⟨p, ex_rd e h1, h2⟩
theorem rd_lock {H : Hp} {d a : Addr} {kvs : List (Key × V)} {od : Obj} {o : HO} (hd : H d = some (.dK kvs)) (h : Rd H a o) : Rd (upd H d (.frz od (.dK kvs))) a o := by
  by_cases z : a = d
  · subst z
    rcases h with h | ⟨o', h⟩
    · rw [hd] at h
      cases h
      exact .inr ⟨od, upd_same⟩
    · rw [hd] at h
      cases h
  · rcases h with h | ⟨o', h⟩
    · exact .inl (by rw [upd_ne z]; exact h)
    · exact .inr ⟨o', by rw [upd_ne z]; exact h⟩
theorem PrAt.lock {H : Hp} {d d' : Addr} {ds : List Nat} {w : Bool} {kvs : List (Key × V)} {od : Obj} (hd : H d' = some (.dK kvs)) (h : PrAt H d ds w) : PrAt (upd H d' (.frz od (.dK kvs))) d ds w := let ⟨p, h1, h2⟩ := h; ⟨p, rd_lock hd h1, h2⟩
section
variable {σ : L2.St} {H : Hp} {td ty tv ta tb : TE} {D : Ends} {tz : TS}
theorem q_dputT {a : Addr} {kvs : List (List Key × V)} {k : List Key} {v : V} (hv : Ev tv σ H v) (ho : Ev td σ H (.ref a)) (hk : EvU ty σ H (k.map kV)) (hd : H a = some (.dT kvs)) (hl : kvs.length < 100000) (c : ∀ H1, Ex H H1 → tz D σ (upd H1 a (.dT (putK kvs k v)))) : tSeq (sDPut td ty tv) tz D σ H :=
  hv H (Ex.refl H) _ fun H1 e1 => ho H1 e1 _ fun H2 e2 => hk H2 (e1.trans e2) _ fun p H3 _ e3 hp => ⟨a, _, rfl, .inr ⟨kvs, k, p, ((e1.trans e2).trans e3) a _ hd, rfl, hp, sz_lt hl, rfl⟩, c H3 ((e1.trans e2).trans e3)⟩
theorem en_dnewT : EvN tDNewT σ H (fun p H2 => H2 p = some (.dT [])) := fun H1 e Q q p hp => q p _ hp (Ex.new hp) upd_same
end
def spBn (K : PySem.W.Frag) : Sp := spN fun vs H P => ∃ (u : Addr) (ds : List Nat) (w : Bool), vs = [.ref u, .str (wayS w)] ∧ SqL K H u (optsV (upsOf ds)) ∧ BM.Good ds ∧ ds.length ≤ 250 ∧ P = fun D H2 => PrAt H2 D ds w
def hgt : Option Nat → Nat
  | none => 0
  | some u => u + 1
structure BnI (ds : List Nat) (w : Bool) (i : Nat) (o : Option Nat) (prs : List (Nat × Nat)) : Prop where
  sound : ∀ a b, (a, b) ∈ prs → b ≤ i ∧ BM.Rel ds w a b
  base : ∀ a b, b < i → BM.Rel ds w a b → (a, b) ∈ prs
  osound : ∀ u, o = some u → BM.Rel ds w u i
  full : ∀ a, BM.Rel ds w a i → (a, i) ∈ prs ∨ ∃ u, o = some u ∧ (a = u ∨ (w = true ∧ BM.Anc ds a u))
  len : prs.length + hgt o ≤ i * ds.length + ds.length
theorem BnI.start {ds : List Nat} {w : Bool} {i : Nat} {prs : List (Nat × Nat)} (G : BM.Good ds) (hi : i < ds.length) (h : ∀ a b, (a, b) ∈ prs ↔ b < i ∧ BM.Rel ds w a b) (hl : prs.length ≤ i * ds.length) : BnI ds w i (BM.upAt ds i) prs := by
  refine ⟨fun a b q => ?_, fun a b hb r => (h a b).mpr ⟨hb, r⟩, fun u e => ?_, fun a r => ?_, ?_⟩
  · obtain ⟨h1, h2⟩ := (h a b).mp q
    exact ⟨by omega, h2⟩
  · cases w with
    | true => exact BM.rel_any.mpr (G.up_anc hi e)
    | false => exact BM.rel_str.mpr e
  · cases w with
    | true =>
      obtain ⟨u, e, y⟩ := (G.anc_up hi).mp (BM.rel_any.mp r)
      exact .inr ⟨u, e, y.imp id fun z => ⟨rfl, z⟩⟩
    | false => exact .inr ⟨a, BM.rel_str.mp r, .inl rfl⟩
  · cases e : BM.upAt ds i with
    | none =>
      show prs.length + 0 ≤ _
      omega
    | some u =>
      have := G.up_lt hi e
      show prs.length + (u + 1) ≤ _
      omega
theorem addK_len {α : Type} [DecidableEq α] (ks : List α) (n : α) : (addK ks n).length ≤ ks.length + 1 := by
  unfold addK
  split
  · omega
  · rw [List.length_append]
    exact Nat.le_refl _
theorem BnI.next {ds : List Nat} {w : Bool} {i u : Nat} {prs : List (Nat × Nat)} (G : BM.Good ds) (hi : i < ds.length) (h : BnI ds w i (some u) prs) : BnI ds w i (if w = true then BM.upAt ds u else none) (addK prs (u, i)) := by
  have hr := h.osound u rfl
  have hul : u < ds.length := Nat.lt_trans (G.rel_lt hi hr) hi
  refine ⟨fun a b q => ?_, fun a b hb r => mem_addK.mpr (.inl (h.base a b hb r)), fun v e => ?_, fun a r => ?_, ?_⟩
  · rcases mem_addK.mp q with z | z
    · exact h.sound a b z
    · injection z with z1 z2
      subst z1
      subst z2
      exact ⟨Nat.le_refl _, hr⟩
  · cases w with
    | false => cases e
    | true =>
      rw [if_pos rfl] at e
      exact BM.rel_any.mpr (anc_trans hi (G.up_anc hul e) (BM.rel_any.mp hr))
  · rcases h.full a r with z | ⟨v, e, z⟩
    · exact .inl (mem_addK.mpr (.inl z))
    · cases e
      rcases z with z | ⟨hw, z⟩
      · exact .inl (mem_addK.mpr (.inr (by rw [z])))
      · subst hw
        rw [if_pos rfl]
        obtain ⟨v, e, y⟩ := (G.anc_up hul).mp z
        exact .inr ⟨v, e, y.imp id fun z => ⟨rfl, z⟩⟩
  · have h1 := addK_len prs (u, i)
    have h2 := h.len
    have h2 : prs.length + (u + 1) ≤ i * ds.length + ds.length := h2
    cases w with
    | false =>
      show (addK prs (u, i)).length + 0 ≤ _
      omega
    | true =>
      rw [if_pos rfl]
      cases e : BM.upAt ds u with
      | none =>
        show (addK prs (u, i)).length + 0 ≤ _
        omega
      | some v =>
        have := G.up_lt hul e
        show (addK prs (u, i)).length + (v + 1) ≤ _
        omega
theorem sc_law_beneath : FnScope ["_law_uppers_here", "_law_way", "_law_pairs_here", "_law_k", "_law_upper", "_law_here"] ["_law_uppers_here", "_law_way"] (defScope s__law_beneath) := ⟨rfl, rfl, rfl, by decide +kernel, rfl, by decide +kernel, by decide +kernel⟩
theorem fn__law_beneath (T : Txt K mg CD CQ CS CA) : Fn P w K mg base "_law_beneath" 1 ["_law_uppers_here", "_law_way"] (spBn K) := by
  refine Fn.of T.g__law_beneath sc_law_beneath (fun _ _ _ _ _ _ us hl => match us, hl with | [_, _], _ => rfl) (fun vs H Q E h => ?_) (fun f cdv A outer s H vs Q E hr h => ?_)
  · obtain ⟨P, ⟨u, ds, w0, rfl, _⟩, _⟩ := h
    rfl
  · obtain ⟨P', ⟨u, ds, w0, rfl, hu, G, hz, rfl⟩, k⟩ := h
    refine ⟨_, (pss_cons (ps_set (i := 2) sc_law_beneath.nd rfl (Or.inl rfl) pe_dnewT)
  (pss_cons (ps_for PassesOwn.never rfl (pi_enum (by rfl) T.z_enumerate (pa_cons (pv 0) pa_nil)) (pg_tup rfl (pgs_cons (pg_name (i := 3) sc_law_beneath.nd rfl (Or.inl rfl)) (pgs_cons (pg_name (i := 4) sc_law_beneath.nd rfl (Or.inl rfl)) pgs_nil))) (pss_cons (ps_set (i := 5) sc_law_beneath.nd rfl (Or.inl rfl) (pv 4))
  (pss_one (ps_while PassesOwn.never (pt_cmp (pc_notN (pv 5))) (pss_cons (ps_dput (hu_of hr) (pv 2) (pe_tup (pa_cons (pv 5) (pa_cons (pv 3) pa_nil))) pe_bl rfl)
  (pss_one (ps_set (i := 5) sc_law_beneath.nd rfl (Or.inl rfl) (pe_ix ix_list (pe_lst (pa_cons (pe_ix ix_list (pv 0) (pv 5) (fun _ _ => rfl)) (pa_cons pe_non pa_nil))) (pe_callTy call_int1 (by rfl) T.z_int (by decide +kernel) (pa_cons (pe_cmpR op_eq (pv 1) pe_str (nomark _)) pa_nil)) (fun _ _ => rfl)))))))))
  (pss_one (ps_ret (pv 2))))), ?_⟩
    refine q_asgN en_dnewT fun D H1 hD e1 hDd => ?_
    refine q_forI (ei_enum (K := K) (p := u) (xs := optsV (upsOf ds)) (ev_var rfl) (ex_l e1 hu)) walk_enum (fun i σ' H' => ∃ (v3 v4 v5 : Option V) (prs : List (Nat × Nat)), σ' = [some (.ref u), some (.str (wayS w0)), some (.ref D), v3, v4, v5] ∧ Ex H H' ∧ H' D = some (.dT (dkv kP prs)) ∧ (∀ a b, (a, b) ∈ prs ↔ b < i ∧ BM.Rel ds w0 a b) ∧ prs.length ≤ i * ds.length)
      (fun H2 e2 => ⟨none, none, none, [], rfl, e1.trans e2, e2 _ _ hDd, fun a b => ⟨fun h => by simp at h, fun h => absurd h.1 (Nat.not_lt_zero _)⟩, by simp⟩) (fun i σ' H' _ ⟨_, _, _, _, _, e, _⟩ => ex_l e hu) ?_ ?_
    · rintro i y σ' H' H'' hi ⟨v3, v4, v5, prs, rfl, e, hk, hM, hL⟩ hy
      rw [optsV_len, upsOf_len] at hi
      refine g_pair hy fun a b ha hb e' => ?_
      cases ha
      have hb : b = optV (BM.upAt ds i) := by
        have := optsV_at (upsOf_at hi)
        rw [this] at hb
        exact (Option.some.inj hb).symm
      subst hb
      have hNN : i * ds.length + ds.length ≤ 250 * 250 := by
        have h1 : (i + 1) * ds.length ≤ 250 * 250 := Nat.mul_le_mul (by omega) hz
        rw [Nat.add_mul, Nat.one_mul] at h1
        exact h1
      refine q_asg (ev_var rfl) fun H2 e2 => ?_
      refine s_while (fun m σ2 H3 => ∃ (o : Option Nat) (prs : List (Nat × Nat)), σ2 = [some (.ref u), some (.str (wayS w0)), some (.ref D), some (.int (i : Int)), some (optV (BM.upAt ds i)), some (optV o)] ∧ Ex H H3 ∧ H3 D = some (.dT (dkv kP prs)) ∧ BnI ds w0 i o prs ∧ (match o with | none => m = 0 | some u => m = u + 1))
        (match BM.upAt ds i with | none => 0 | some u => u + 1) ⟨BM.upAt ds i, prs, rfl, e.trans (e'.trans e2), e2 _ _ (e' _ _ hk), BnI.start G hi hM hL, by cases BM.upAt ds i <;> rfl⟩ ?_
      rintro m σ2 H3 ⟨o, prs2, rfl, e3, hk3, B3, hm⟩
      refine ⟨(match o with | none => false | some _ => true), ?_, ?_, ?_⟩
      · cases o with
        | none => exact et_is (et_B (ev_notN (ev_var rfl))) rfl
        | some v => exact et_is (et_B (ev_notN (ev_var rfl))) rfl
      · intro hb H4 e4
        cases o with
        | none => cases hb
        | some v =>
          have hm : m = v + 1 := hm
          subst hm
          have hvl : v < ds.length := Nat.lt_trans (G.rel_lt hi (B3.osound v rfl)) hi
          have hlen : prs2.length + (v + 1) ≤ i * ds.length + ds.length := B3.len
          refine ⟨fun σ3 H5 => ∃ (o : Option Nat) (prs : List (Nat × Nat)), σ3 = [some (.ref u), some (.str (wayS w0)), some (.ref D), some (.int (i : Int)), some (optV (BM.upAt ds i)), some (optV o)] ∧ Ex H H5 ∧ H5 D = some (.dT (dkv kP prs)) ∧ BnI ds w0 i o prs ∧ (∀ u', o = some u' → u' < v), ?_, ?_⟩
          · rintro σ3 H5 ⟨o, prs, rfl, h1, h2, h3, h4⟩
            refine ⟨(match o with | none => 0 | some u => u + 1), ?_, o, prs, rfl, h1, h2, h3, by cases o <;> rfl⟩
            cases o with
            | none => exact Nat.succ_pos _
            | some u' => exact Nat.succ_lt_succ (h4 u' rfl)
          · refine q_dputT (k := kP (v, i)) ev_c (ev_var rfl) (eu_tup (ea_cons (ev_var rfl) (ea_cons (ev_var rfl) ea_nil)) (by show 2 ≤ 100000; omega)) (e4 _ _ hk3) (by rw [dkv_len]; omega) fun H5 e5 => ?_
            rw [show putK (dkv kP prs2) (kP (v, i)) (.bl true) = dkv kP (addK prs2 (v, i)) from dkv_put kP_inj]
            have e6 : Ex H (upd H5 D (.dT (dkv kP (addK prs2 (v, i))))) := Ex.mut ((e3.trans e4).trans e5) hD
            have B5 := B3.next G hi
            refine s_asg (v := optV (if w0 = true then BM.upAt ds v else none)) (ev_ixN (xs := [optV (BM.upAt ds v), .non]) (el_lst (ea_cons (ev_op (ev_var rfl) (ev_var rfl) (rv_ixL (ex_l e6 hu) (atI_nat (optsV_at (upsOf_at hvl))))) (ea_cons ev_c ea_nil)) (by show 2 ≤ 100000; omega)) (ev_int1 (k := !w0) (ev_is (ev_op (ev_var rfl) ev_c (rv_eq rfl)) (congrArg V.bl (wayS_dec w0)))) ?_) fun H6 e7 => ⟨_, _, rfl, e6.trans e7, e7 _ _ upd_same, B5, fun u' q => ?_⟩
            · cases w0 with
              | true => rfl
              | false => rfl
            · cases w0 with
              | false => cases q
              | true =>
                rw [if_pos rfl] at q
                exact G.up_lt hvl q
      · intro hb H4 e4
        cases o with
        | some v => cases hb
        | none =>
          have hlen : prs2.length + 0 ≤ i * ds.length + ds.length := B3.len
          refine ⟨some (.int (i : Int)), some (optV (BM.upAt ds i)), some (optV none), prs2, rfl, e3.trans e4, e4 _ _ hk3, fun a b => ⟨fun h => ?_, fun ⟨h1, h2⟩ => ?_⟩, by rw [Nat.add_mul, Nat.one_mul]; omega⟩
          · obtain ⟨h1, h2⟩ := B3.sound a b h
            exact ⟨by omega, h2⟩
          · by_cases hbi : b < i
            · exact B3.base a b hbi h2
            · have : b = i := by omega
              subst this
              rcases B3.full a h2 with z | ⟨v, q, _⟩
              · exact z
              · cases q
    · rintro σ' H' ⟨v3, v4, v5, prs, rfl, e, hk, hM, _⟩
      rw [optsV_len, upsOf_len] at hM
      exact s_ret (ev_var rfl) fun H2 e2 => k D H2 hD (e.trans e2) ⟨prs, .inl (e2 _ _ hk), hM⟩
/-! ### _law_pairs -/
def PairsAt (H : Hp) (D : Addr) (ds : List Nat) : Prop := ∃ d1 d2 : Addr, Rd H D (.dK [(kS "/", .ref d1), (kS "//", .ref d2)]) ∧ PrAt H d1 ds false ∧ PrAt H d2 ds true
theorem PairsAt.mono {H H' : Hp} {d : Addr} {ds : List Nat} (e : Ex H H') (h : PairsAt H d ds) : PairsAt H' d ds := let ⟨a, b, h1, h2, h3⟩ := h; ⟨a, b, ex_rd e h1, h2.mono e, h3.mono e⟩
theorem PairsAt.lock {H : Hp} {d d' : Addr} {ds : List Nat} {kvs : List (Key × V)} {od : Obj} (hd : H d' = some (.dK kvs)) (h : PairsAt H d ds) : PairsAt (upd H d' (.frz od (.dK kvs))) d ds := let ⟨a, b, h1, h2, h3⟩ := h; ⟨a, b, rd_lock hd h1, h2.lock hd, h3.lock hd⟩
theorem PairsAt.get {H : Hp} {D : Addr} {ds : List Nat} (h : PairsAt H D ds) (w : Bool) : ∃ (kvs : List (Key × V)) (d : Addr), Rd H D (.dK kvs) ∧ valV kvs (kS (wayS w)) = some (.ref d) ∧ PrAt H d ds w := by
  obtain ⟨a, b, h1, h2, h3⟩ := h
  cases w with
  | false => exact ⟨_, a, h1, valV_pos rfl, h2⟩
  | true => exact ⟨_, b, h1, by
      rw [valV_neg (ks_ne (by decide +kernel))]
      exact valV_pos rfl, h3⟩
def spPairs (K : PySem.W.Frag) : Sp := spN fun vs H P => ∃ (a : Addr) (rows : List DR), vs = [.ref a] ∧ RowsAt K H a (rows.map rowD) ∧ BM.Good (BM.dds rows) ∧ rows.length ≤ 250 ∧ P = fun D H2 => PairsAt H2 D (BM.dds rows)
theorem merge_ways (x y : V) : mergeK [] [(kS "/", x), (kS "//", y)] = [(kS "/", x), (kS "//", y)] := by
  unfold mergeK
  rw [List.foldl_cons, List.foldl_cons, List.foldl_nil]
  show putK [(kS "/", x)] (kS "//") y = _
  unfold putK
  rw [valV_any, valV_neg (ks_ne (by decide +kernel)), valV_nil]
  rfl
theorem sc_law_pairs : FnScope ["_law_document", "_law_uppers_here", "_law_row"] ["_law_document"] (defScope s__law_pairs) := ⟨rfl, rfl, rfl, by decide +kernel, rfl, by decide +kernel, by decide +kernel⟩
theorem fn__law_pairs (T : Txt K mg CD CQ CS CA) : Fn P w K mg base "_law_pairs" 2 ["_law_document"] (spPairs K) := by
  refine Fn.of T.g__law_pairs sc_law_pairs (fun _ _ _ _ _ _ us hl => match us, hl with | [_], _ => rfl) (fun vs H Q E h => ?_) (fun f cdv A outer s H vs Q E hr h => ?_)
  · obtain ⟨P, ⟨a, rows, rfl, _⟩, _⟩ := h
    rfl
  · obtain ⟨P', ⟨a, rows, rfl, hR, G, hz, rfl⟩, k⟩ := h
    refine ⟨_, (pss_cons (ps_set (i := 1) sc_law_pairs.nd rfl (Or.inl rfl) (Fn.pe (by exact fn__law_uppers T) (hr.mono (by decide)) (by rfl) (pa_cons (pe_lc (own := [("_law_row", 2)]) (g := (gName 2)) rfl sc_law_pairs.nd (pi_list (pv 0)) (blkOk_by (by kernel_rfl)) (fun _ _ _ _ _ => (pg_name (i := 2) sc_law_pairs.nd rfl (Or.inl rfl))) (fun _ _ _ _ _ => pts_nil) (fun _ _ _ _ _ => (pe_ix (show IxR _ (rIxT K) from ix_tup) (pv 2) pe_int (fun _ _ => rfl)))) pa_nil)))
  (pss_one (ps_ret (pe_disp (pps_cons pe_str (Fn.pe (by exact fn__law_beneath T) (hr.mono (by decide)) (by rfl) (pa_cons (pv 1) (pa_cons pe_str pa_nil))) (pps_cons pe_str (Fn.pe (by exact fn__law_beneath T) (hr.mono (by decide)) (by rfl) (pa_cons (pv 1) (pa_cons pe_str pa_nil))) pps_nil)) (by rfl) (by rfl) (fun z => by cases z) (by decide))))), ?_⟩
    have hdl : (BM.dds rows).length = rows.length := BM.dds_len rows
    refine q_asgN (P := fun p H2 => H2 p = some (.lst (optsV (upsOf (BM.dds rows))))) (en_call1L (el_col (g := fun (r : DR) => r.2) (j := 2) (ws := [2]) (c := 1) (ev_var rfl) hR (by omega) (fun _ => rfl) (fun _ => rfl) fun _ => rfl) fun p H1 e1 hp => ⟨p, BM.dds rows, rfl, sq_of hp, G, by omega, rfl⟩) fun up H1 h1 e1 hup => ?_
    refine s_retN (P := fun D H2 => PairsAt H2 D (BM.dds rows)) (fun H2 e2 Q q p hp => ?_) fun p H2 hp e2 hP => k p H2 (fresh_back e1 hp) (e1.trans e2) hP
    have e0 : Ex H2 (upd H2 p (.dK [])) := Ex.new hp
    refine ev_c _ (Ex.refl _) _ fun H3 e3 => ?_
    refine en_call (P := fun D H2 => PrAt H2 D (BM.dds rows) false) (ea_cons (ev_var rfl) (ea_cons ev_c ea_nil)) (fun H4 e4 => ⟨up, BM.dds rows, false, rfl, sq_of (e4 _ _ (e3 _ _ (e0 _ _ (e2 _ _ hup)))), G, by omega, rfl⟩) H3 (Ex.refl _) _ fun d1 H4 h4 e4 hd1 => ?_
    refine ev_c _ (Ex.refl _) _ fun H5 e5 => ?_
    refine en_call (P := fun D H2 => PrAt H2 D (BM.dds rows) true) (ea_cons (ev_var rfl) (ea_cons ev_c ea_nil)) (fun H6 e6 => ⟨up, BM.dds rows, true, rfl, sq_of (e6 _ _ (e5 _ _ (e4 _ _ (e3 _ _ (e0 _ _ (e2 _ _ hup)))))), G, by omega, rfl⟩) H5 (Ex.refl _) _ fun d2 H6 h6 e6 hd2 => ?_
    have e36 := ((e3.trans e4).trans e5).trans e6
    have hp6 : H6 p = some (.dK []) := e36 _ _ upd_same
    refine ⟨hp6, [(kS "/", .ref d1), (kS "//", .ref d2)], rfl, by show 2 ≤ 15; omega, ?_⟩
    rw [merge_ways]
    have hn1 : ∀ d w, PrAt H6 d (BM.dds rows) w → PrAt (upd H6 p (.dK [(kS "/", .ref d1), (kS "//", .ref d2)])) d (BM.dds rows) w := fun d w ⟨prs, hr, hm⟩ => by
      have hne : d ≠ p := fun z => by
        rw [z] at hr
        rcases hr with hr | ⟨o, hr⟩ <;> rw [hp6] at hr <;> cases hr
      refine ⟨prs, ?_, hm⟩
      rcases hr with hr | ⟨o, hr⟩
      · exact .inl (by rw [upd_ne hne]; exact hr)
      · exact .inr ⟨o, by rw [upd_ne hne]; exact hr⟩
    exact q p _ hp (Ex.mut (e0.trans e36) hp) ⟨d1, d2, .inl upd_same, hn1 _ _ (hd1.mono (e5.trans e6)), hn1 _ _ hd2⟩
end
end Bo
set_option Elab.async false
set_option linter.all false
set_option maxRecDepth 100000
set_option maxHeartbeats 4000000
namespace Bo
open PySem PySem.Spec PyProof.Rows L2 Evl BK BL
section
variable {P : Program} {w : World} {K : PySem.W.Frag} {mg : Str → Option Value} {base : Heap} {CD CQ CS CA : Addr}
section
variable {σ : L2.St} {H : Hp} {td te ta tb : TE} {D : Ends} {tz : TS} {t : TT}
theorem el_keysB {d : Addr} {ks : List Nat} {j : Nat} {ws : List Nat} (g : Nat → Bool) (hd : H d = some (.dK (dSet ks))) (h : ∀ od, Ev td σ (upd H d (.frz od (.dK (dSet ks)))) (.ref d)) (hz : ks.length ≤ 40000) (hw : ∀ x, wipe ((wipe σ ws).set j (some x)) ws = wipe σ ws)
    (ht : ∀ od (p : Nat) H1, p ∈ ks → Ex (upd H d (.frz od (.dK (dSet ks)))) H1 → Ev te ((wipe σ ws).set j (some (.int (p : Int)))) H1 (.bl (g p))) : EvL (tLockE (tLc (iKeys td) (gName j) tYes te ws)) σ H ((ks.map g).map V.bl) := el_lock hd fun od => by
  have hl : (dSet ks).length = ks.length := dkv_len
  have := el_lcN (t := tYes) (te := te) (j := j) (ws := ws) (fun _ => true) (fun i => .bl (g (ks.getD i 0))) (by rw [hl]; exact hz) (ei_keys (h od) (upd_same (H := H))) walk_keys (fun H1 e => e _ _ upd_same) (fun i H1 x H2 y => y.1) hw (fun i x H1 hi e y => ⟨fun H2 _ Q q => q H2 (Ex.refl H2), fun _ => by
    obtain ⟨_, k, v, hk, rfl⟩ := y
    obtain ⟨n, hn, rfl⟩ := dSet_get hk
    rw [getD_of hn]
    exact ht od n H1 (List.mem_of_getElem? hn) e⟩)
  rw [hl, given_all] at this
  have e : (List.range ks.length).map (fun i => V.bl (g (ks.getD i 0))) = (ks.map g).map V.bl := by
    rw [List.map_map]
    refine List.ext_getElem? fun i => ?_
    rw [List.getElem?_map, List.getElem?_map]
    by_cases hi : i < ks.length
    · rw [List.getElem?_range hi, List.getElem?_eq_getElem hi]
      show some (V.bl (g (ks.getD i 0))) = some (V.bl (g ks[i]))
      rw [getD_of (List.getElem?_eq_getElem hi)]
    · rw [List.getElem?_eq_none (by rw [List.length_range]; omega), List.getElem?_eq_none (by omega)]
      rfl
  rw [e] at this
  exact this
theorem el_keysF {d : Addr} {ks : List Nat} {j : Nat} {ws : List Nat} (g : Nat → Bool) (hd : H d = some (.dK (dSet ks))) (h : ∀ od, Ev td σ (upd H d (.frz od (.dK (dSet ks)))) (.ref d)) (hz : ks.length ≤ 40000) (hw : ∀ x, wipe ((wipe σ ws).set j (some x)) ws = wipe σ ws) (hj : ∀ x, ((wipe σ ws).set j (some x))[j]? = some (some x))
    (ht : ∀ od (p : Nat) H1, p ∈ ks → Ex (upd H d (.frz od (.dK (dSet ks)))) H1 → EvT t ((wipe σ ws).set j (some (.int (p : Int)))) H1 (g p)) : EvL (tLockE (tLc (iKeys td) (gName j) t (tVar j) ws)) σ H (natV (ks.filter g)) := el_lock hd fun od => by
  have hl : (dSet ks).length = ks.length := dkv_len
  have := el_lcN (t := t) (te := tVar j) (j := j) (ws := ws) (fun i => g (ks.getD i 0)) (fun i => .int ((ks.getD i 0 : Nat) : Int)) (by rw [hl]; exact hz) (ei_keys (h od) (upd_same (H := H))) walk_keys (fun H1 e => e _ _ upd_same) (fun i H1 x H2 y => y.1) hw (fun i x H1 hi e y => by
    obtain ⟨_, k, v, hk, rfl⟩ := y
    obtain ⟨n, hn, rfl⟩ := dSet_get hk
    rw [getD_of hn]
    exact ⟨ht od n H1 (List.mem_of_getElem? hn) e, fun _ => ev_var (hj _)⟩)
  rw [hl, given_natV] at this
  exact this
end
theorem s_forI {σ : L2.St} {H : Hp} {J : It} {n : Nat} {G : Hp → Prop} {Y : Nat → Hp → V → Hp → Prop} {wi : TI} {g : TG} {tb : TS} {D : Ends} (hi : EvI wi σ H J) (w : Walk J n G Y) (Pv : Nat → L2.St → Hp → Prop) (h0 : ∀ H1, Ex H H1 → Pv 0 σ H1) (hG : ∀ i σ' H', i ≤ n → Pv i σ' H' → G H')
    (hs : ∀ i x σ' H' H'', i < n → Pv i σ' H' → Y i H' x H'' → g x σ' H'' fun σ2 H2 => tb { D with nx := Pv (i + 1), ct := Pv (i + 1), bk := D.nx } σ2 H2) (hd : ∀ σ' H', Pv n σ' H' → D.nx σ' H') : tFor wi g tb D σ H :=
  hi H (Ex.refl H) _ fun H1 e => for_it w Pv (h0 H1 e) hG hs hd
/-! ### _law_down -/
structure DownAt (H : Hp) (dl : Addr) (N n : Nat) (T : Nat → Nat → Prop) (ds : List Addr) : Prop where
  ob : H dl = some (.lst (refsV ds))
  len : ds.length = n
  nd : ds.Nodup
  at_ : ∀ (l : Nat) (a : Addr), ds[l]? = some a → SetAt H a N (T l)
theorem DownAt.mono {H H' : Hp} {dl : Addr} {N n : Nat} {T : Nat → Nat → Prop} {ds : List Addr} (e : Ex H H') (h : DownAt H dl N n T ds) : DownAt H' dl N n T ds := ⟨e _ _ h.ob, h.len, h.nd, fun l a q => (h.at_ l a q).mono e⟩
theorem DownAt.congr {H : Hp} {dl : Addr} {N n : Nat} {T T' : Nat → Nat → Prop} {ds : List Addr} (h : DownAt H dl N n T ds) (i : ∀ l p, l < n → p < N → (T l p ↔ T' l p)) : DownAt H dl N n T' ds := ⟨h.ob, h.len, h.nd, fun l a q => by
  obtain ⟨ks, h1, h2, h3⟩ := h.at_ l a q
  have hl : l < n := by
    rw [← h.len]
    exact (List.getElem?_eq_some_iff.mp q).1
  exact ⟨ks, h1, h2, fun k => by rw [h3 k]; exact and_congr_right fun hk => i l k hl hk⟩⟩
theorem DownAt.put {H : Hp} {dl : Addr} {N n : Nat} {T T' : Nat → Nat → Prop} {ds : List Addr} {s p : Nat} {a : Addr} {ks : List Nat} (h : DownAt H dl N n T ds) (ha : ds[s]? = some a) (hk : H a = some (.dK (dSet ks))) (hn : ks.Nodup) (hm : ∀ k, k ∈ ks ↔ k < N ∧ T s k) (hp : p < N) (i : ∀ q, T' s q ↔ T s q ∨ q = p) (i2 : ∀ l q, l ≠ s → (T' l q ↔ T l q)) : DownAt (upd H a (.dK (dSet (addK ks p)))) dl N n T' ds := by
  have hne : dl ≠ a := fun z => by
    rw [← z, h.ob] at hk
    cases hk
  refine ⟨by rw [upd_ne hne]; exact h.ob, h.len, h.nd, fun l b hb => ?_⟩
  by_cases hl : l = s
  · subst hl
    rw [ha] at hb
    cases hb
    refine ⟨_, upd_same, nodup_addK hn, fun k => ?_⟩
    rw [mem_addK, hm k, i k]
    constructor
    · rintro (⟨h1, h2⟩ | h1)
      · exact ⟨h1, .inl h2⟩
      · exact ⟨h1 ▸ hp, .inr h1⟩
    · rintro ⟨h1, h2⟩
      exact h2.imp (fun z => ⟨h1, z⟩) id
  · have hba : b ≠ a := fun z => by
      subst z
      have h1 := (List.getElem?_eq_some_iff.mp ha)
      have h2 := (List.getElem?_eq_some_iff.mp hb)
      exact hl ((List.getElem_inj h.nd).mp (h2.2.trans h1.2.symm))
    obtain ⟨ks2, h1, h2, h3⟩ := h.at_ l b hb
    exact ⟨ks2, by rw [upd_ne hba]; exact h1, h2, fun k => by rw [h3 k, i2 l k hl]⟩
def spLDown (K : PySem.W.Frag) : Sp := spN fun vs H P => ∃ (dc rw' pr : Addr) (rows : List DR) (qs : List QR), vs = [.ref dc, .ref rw', .ref pr] ∧ RowsAt K H dc (rows.map rowD) ∧ OkD rows ∧ RowsAt K H rw' (qs.map rowQ) ∧ OkQ qs ∧ PairsAt H pr (BM.dds rows) ∧ P = fun p H2 => ∃ ds, DownAt H2 p rows.length qs.length (BM.Down (BM.docT rows) (BM.queT qs)) ds
/-- good so far -/
def gd (rows : List DR) (qs : List QR) (s p m : Nat) : Prop := (BM.docT rows).lab p = (BM.queT qs).lab s ∧ ∀ l, s < l → l < s + 1 + m → (BM.queT qs).up l = some s → ∃ q, BM.Rel (BM.dds rows) ((BM.queT qs).way l) p q ∧ BM.Down (BM.docT rows) (BM.queT qs) l q
theorem gd_next {rows : List DR} {qs : List QR} {s p m : Nat} : gd rows qs s p (m + 1) ↔ gd rows qs s p m ∧ ((BM.queT qs).up (s + 1 + m) = some s → ∃ q, BM.Rel (BM.dds rows) ((BM.queT qs).way (s + 1 + m)) p q ∧ BM.Down (BM.docT rows) (BM.queT qs) (s + 1 + m) q) := by
  constructor
  · rintro ⟨h1, h2⟩
    exact ⟨⟨h1, fun l h3 h4 => h2 l h3 (by omega)⟩, h2 _ (by omega) (by omega)⟩
  · rintro ⟨⟨h1, h2⟩, h3⟩
    refine ⟨h1, fun l h4 h5 h6 => ?_⟩
    by_cases hl : l < s + 1 + m
    · exact h2 l h4 hl h6
    · have : l = s + 1 + m := by omega
      subst this
      exact h3 h6
theorem gd_down {rows : List DR} {qs : List QR} (O : OkQ qs) {s p m : Nat} (hm : qs.length ≤ s + 1 + m) (hp : p < rows.length) : gd rows qs s p m ↔ BM.Down (BM.docT rows) (BM.queT qs) s p := by
  rw [BM.down_iff]
  constructor
  · rintro ⟨h1, h2⟩
    exact ⟨hp, h1, fun l hl hu => h2 l ((BM.queT_ok O.good).lt hl hu) (Nat.lt_of_lt_of_le hl hm) hu⟩
  · rintro ⟨_, h1, h2⟩
    refine ⟨h1, fun l h3 h4 hu => ?_⟩
    by_cases hl : l < qs.length
    · exact h2 l hl hu
    · exfalso
      have : BM.upAt (BM.qds qs) l = none := by
        unfold BM.upAt BM.dep
        rw [List.getD_eq_getElem?_getD, List.getElem?_eq_none (by rw [BM.qds_len]; omega)]
        rfl
      have hu : BM.upAt (BM.qds qs) l = some s := hu
      rw [this] at hu
      cases hu
theorem sc_law_down : FnScope ["_law_document", "_law_rows_here", "_law_pairs_here", "_law_uppers_here", "_law_down_here", "_law_step", "_law_part", "_law_row", "_law_good", "_law_lower", "_law_one"] ["_law_document", "_law_rows_here", "_law_pairs_here"] (defScope s__law_down) := ⟨rfl, rfl, rfl, by decide +kernel, rfl, by decide +kernel, by decide +kernel⟩
theorem fn__law_down (T : Txt K mg CD CQ CS CA) : Fn P w K mg base "_law_down" 2 ["_law_document", "_law_rows_here", "_law_pairs_here"] (spLDown K) := by
  refine Fn.of T.g__law_down sc_law_down (fun _ _ _ _ _ _ us hl => match us, hl with | [_, _, _], _ => rfl) (fun vs H Q E h => ?_) (fun f cdv A outer s H vs Q E hr h => ?_)
  · obtain ⟨P, ⟨dc, rw', pr, rows, qs, rfl, _⟩, _⟩ := h
    rfl
  · obtain ⟨P', ⟨dc, rw', pr, rows, qs, rfl, hdc, O, hrw, OQ, hpr, rfl⟩, k⟩ := h
    refine ⟨_, (pss_cons (ps_set (i := 3) sc_law_down.nd rfl (Or.inl rfl) (Fn.pe (by exact fn__law_uppers T) (hr.mono (by decide)) (by rfl) (pa_cons (pe_lc (own := [("_law_row", 7)]) (g := (gName 7)) rfl sc_law_down.nd (pi_list (pv 1)) (blkOk_by (by kernel_rfl)) (fun _ _ _ _ _ => (pg_name (i := 7) sc_law_down.nd rfl (Or.inl rfl))) (fun _ _ _ _ _ => pts_nil) (fun _ _ _ _ _ => (pe_ix (show IxR _ (rIxT K) from ix_tup) (pv 7) pe_int (fun _ _ => rfl)))) pa_nil)))
  (pss_cons (ps_setLc (i := 4) (own := [("_law_row", 7)]) (g := (gName 7)) rfl sc_law_down.nd rfl rfl (sw_true rfl rfl rfl (by decide +kernel)) (pi_list (pv 1)) (blkOk_by (by kernel_rfl)) (fun _ _ _ _ _ => (pg_name (i := 7) sc_law_down.nd rfl (Or.inl rfl))) (fun _ _ _ _ _ => pts_nil) (fun _ _ _ _ _ => pe_dnewK))
  (pss_cons (ps_for PassesOwn.never rfl (pi_range3 rfl T.z_range (pa_cons (pe_op op_sub (pe_callB call_len_seq (by rfl) T.z_len (by decide +kernel) (pa_cons (pv 1) pa_nil)) pe_int) (pa_cons (pe_un un_neg pe_int) (pa_cons (pe_un un_neg pe_int) pa_nil)))) (pg_name (i := 5) sc_law_down.nd rfl (Or.inl rfl)) (pss_one (ps_for PassesOwn.never rfl (pi_enum (by rfl) T.z_enumerate (pa_cons (pv 0) pa_nil)) (pg_tup rfl (pgs_cons (pg_name (i := 6) sc_law_down.nd rfl (Or.inr rfl)) (pgs_cons (pg_name (i := 7) sc_law_down.nd rfl (Or.inl rfl)) pgs_nil))) (pss_cons (ps_set (i := 8) sc_law_down.nd rfl (Or.inl rfl) (pe_cmpR op_eq (pe_ix ix_tup (pv 7) pe_int (fun _ _ => rfl)) (pe_ix ix_tup (pe_ix ix_list (pv 1) (pv 5) (fun _ _ => rfl)) pe_int (fun _ _ => rfl)) (nomark _)))
  (pss_cons (ps_for PassesOwn.never rfl (pi_range2 rfl T.z_range (pa_cons (pe_op op_add (pv 5) pe_int) (pa_cons (pe_callB call_len_seq (by rfl) T.z_len (by decide +kernel) (pa_cons (pv 1) pa_nil)) pa_nil))) (pg_name (i := 9) sc_law_down.nd rfl (Or.inr rfl)) (pss_one (ps_if (PW.pt (pw_and (pt_val (pv 8)) (pw_and1 (pt_cmpR op_eq (pe_ix ix_list (pv 3) (pv 9) (fun _ _ => rfl)) (pv 5) (nomark _))))) (pss_one (ps_set (i := 8) sc_law_down.nd rfl (Or.inl rfl) (pe_callB (cr_any rfl) (by rfl) T.z_any (by decide +kernel) (pa_cons (pe_lock (pe_lc (own := [("_law_one", 10)]) (g := (gName 10)) rfl sc_law_down.nd (pi_keys (pe_ix ix_list (pv 4) (pv 9) (fun _ _ => rfl))) (blkOk_by (by kernel_rfl)) (fun _ _ _ _ _ => (pg_name (i := 10) sc_law_down.nd rfl (Or.inl rfl))) (fun _ _ _ _ _ => pts_nil) (fun _ _ _ _ _ => (pe_cmp (pc_din (hu_of hr) (pe_tup (pa_cons (pv 6) (pa_cons (pv 10) pa_nil))) (pe_dget (hu_of hr) (pv 2) (pe_ix (show IxR _ (rIxT K) from ix_tup) (pe_ix (show IxR _ (rIxL K) from ix_list) (pv 1) (pv 9) (fun _ _ => rfl)) pe_int (fun _ _ => rfl)) (fun _ _ => rfl))))))) pa_nil)))) pss_nil)))
  (pss_one (ps_if (pt_val (pv 8)) (pss_one (ps_dput (hu_of hr) (pe_ix ix_list (pv 4) (pv 5) (fun _ _ => rfl)) (pv 6) pe_bl rfl)) pss_nil)))))))
  (pss_one (ps_ret (pv 4)))))), ?_⟩
    have hN := O.many
    have hM := OQ.many
    have hql : (BM.qds qs).length = qs.length := BM.qds_len qs
    obtain ⟨das, hd1, hd2⟩ := id hdc
    obtain ⟨ras, hr1, hr2⟩ := id hrw
    have hdl : das.length = rows.length := by rw [hd2.len, List.length_map]
    have hrl : ras.length = qs.length := by rw [hr2.len, List.length_map]
    refine q_asgN (P := fun p H2 => H2 p = some (.lst (optsV (upsOf (BM.qds qs))))) (en_call1L (el_col (g := fun (r : QR) => r.2.2) (j := 7) (ws := [7]) (c := 2) (ev_var rfl) hrw (by omega) (fun _ => rfl) (fun _ => rfl) fun _ => rfl) fun p H1 e1 hp => ⟨p, BM.qds qs, rfl, sq_of hp, OQ.good, by omega, rfl⟩) fun up H1 h1 e1 hup => ?_
    have hlc := en_lcO (σ := [some (.ref dc), some (.ref rw'), some (.ref pr), some (.ref up), none, none, none, none, none, none, none]) (H := H1) (wi := iList K (tVar 1)) (g := gName 7) (te := tDNewK) (ws := [7]) (n := (refsV ras).length) (fun i o => o = .dK (dSet [])) (by rw [List.length_map, hrl]; omega) (ei_list (K := K) (ev_var rfl) (ex_l e1 hr1)) walk_list (fun _ e => ex_l (e1.trans e) hr1) (fun i y H6 H7 hi e6 hy => by
      obtain ⟨rfl, hy⟩ := hy
      exact ⟨_, Ex.refl _, fun R r => r, rfl, fun H8 e8 Q8 q8 => en_dnewK H8 e8 Q8 fun p H9 hp e9 h9 => q8 p H9 hp e9 ⟨_, h9, rfl⟩⟩)
    refine q_asgN hlc fun dl H2 h2 e2 ⟨ds, hds, hO, hnm⟩ => ?_
    have e12 := e1.trans e2
    have hdsl : ds.length = qs.length := by rw [hO.len, List.length_map, hrl]
    have D0 : DownAt H2 dl rows.length qs.length (fun l p => qs.length ≤ l ∧ BM.Down (BM.docT rows) (BM.queT qs) l p) ds := ⟨hds, hdsl, hO.nd, fun l a ha => by
      obtain ⟨o, ho, rfl⟩ := hO.at_ l a ha
      have := (List.getElem?_eq_some_iff.mp ha).1
      exact ⟨[], ho, List.nodup_nil, fun k => ⟨fun h => by simp at h, fun h => by omega⟩⟩⟩
    have hpos := OQ.pos
    refine q_forI (ei_range3 (i := (qs.length : Int) - 1) (j := -1) (c := -1) (n := qs.length) (ev_int (ev_op (ev_len (ev_var rfl) (ex_l e12 hr1)) ev_c rv_I0) (by rw [List.length_map, hrl])) (ev_un ev_c ru_neg) (ev_un ev_c ru_neg) ?_) walk_rangeC (fun i σ' H' => ∃ (v5 v6 v7 v8 v9 v10 : Option V), σ' = [some (.ref dc), some (.ref rw'), some (.ref pr), some (.ref up), some (.ref dl), v5, v6, v7, v8, v9, v10] ∧ Ex H1 H' ∧ DownAt H' dl rows.length qs.length (fun l p => qs.length - i ≤ l ∧ BM.Down (BM.docT rows) (BM.queT qs) l p) ds)
      (fun H3 e3 => ⟨none, none, none, none, none, none, rfl, e2.trans e3, D0.mono e3⟩) (fun _ _ _ _ _ => trivial) ?_ ?_
    · have := RgC.neg (i := (qs.length : Int) - 1) (j := -1) (by omega) (by omega) (by omega) (by omega)
      rw [show ((qs.length : Int) - 1 - -1).toNat = qs.length by omega] at this
      exact this
    · rintro i y σ' H' H'' hi ⟨v5, v6, v7, v8, v9, v10, rfl, e3, hD⟩ ⟨rfl, hy⟩
      obtain ⟨s, hs⟩ : ∃ s, s = qs.length - 1 - i := ⟨_, rfl⟩
      have hsq : s < qs.length := by omega
      have hy : y = .int (s : Int) := by
        rw [hy]
        exact congrArg V.int (by omega)
      subst hy
      have e03 := e1.trans e3
      obtain ⟨sa, hsa⟩ : ∃ a, ds[s]? = some a := ⟨_, List.getElem?_eq_getElem (by rw [hdsl]; exact hsq)⟩
      obtain ⟨rs, hrs⟩ : ∃ r, qs[s]? = some r := ⟨_, List.getElem?_eq_getElem hsq⟩
      obtain ⟨sr, hsr, hsrS⟩ := hr2.get (i := s) (r := rowQ rs) (by rw [List.getElem?_map, hrs]; rfl)
      refine s_forI (ei_enum (K := K) (p := dc) (xs := refsV das) (ev_var rfl) (ex_l e03 hd1)) walk_enum (fun j σ' H' => ∃ (v6 v7 v8 v9 v10 : Option V), σ' = [some (.ref dc), some (.ref rw'), some (.ref pr), some (.ref up), some (.ref dl), some (.int (s : Int)), v6, v7, v8, v9, v10] ∧ Ex H1 H' ∧ DownAt H' dl rows.length qs.length (fun l p => s ≤ l ∧ (l = s → p < j) ∧ BM.Down (BM.docT rows) (BM.queT qs) l p) ds)
        (fun H4 e4 => ⟨v6, v7, v8, v9, v10, rfl, e3.trans e4, (hD.mono e4).congr fun l p hl hp => ⟨fun h => ⟨by omega, fun q => by omega, h.2⟩, fun ⟨q1, q2, q3⟩ => ⟨?_, q3⟩⟩⟩) (fun _ _ H' _ ⟨_, _, _, _, _, _, e, _⟩ => ex_l (e1.trans e) hd1) ?_ ?_
      · by_cases q : l = s
        · have := q2 q
          omega
        · omega
      · rintro p y σ' H4 H5 hp ⟨v6, v7, v8, v9, v10, rfl, e4, hD4⟩ hy
        rw [List.length_map, hdl] at hp
        refine g_pair hy fun a b ha hb e45 => ?_
        cases ha
        obtain ⟨pa, hpa, rfl⟩ := refs_back hb
        have e5 := e4.trans e45
        have e05 := e1.trans e5
        have hD5 := hD4.mono e45
        have hpS : SqT K H5 pa (rowD rows[p]) := ex_t e05 (hd2.at_ p pa _ hpa (row_at hp))
        have hlab0 : decide (V.str rows[p].1 = V.str rs.2.1) = BM.yes (gd rows qs s p 0) := by
          refine (BM.yes_eq ?_).symm
          rw [decide_eq_true_iff]
          unfold gd
          rw [que_lab hrs, show (BM.docT rows).lab p = some rows[p].1 by
            show (rows[p]?).map (·.1) = _
            rw [List.getElem?_eq_getElem hp]
            rfl]
          constructor
          · intro h
            injection h with h
            exact ⟨by rw [h], fun l h1 h2 => by omega⟩
          · rintro ⟨h, _⟩
            rw [Option.some.inj h]
        refine q_asg (ev_is (ev_op (ev_op (ev_var rfl) ev_c (rv_ixT (i := 0) hpS rfl)) (ev_op (ev_op (ev_var rfl) (ev_var rfl) (rv_ixL (ex_l e05 hr1) (atI_nat (refs_at hsr)))) ev_c (rv_ixT (i := 1) (ex_t e05 hsrS) rfl)) (rv_eq rfl)) (congrArg V.bl hlab0)) fun H6 e6 => ?_
        refine q_forI (ei_range2 (i := (s : Int) + 1) (j := ((qs.length : Nat) : Int)) (ev_op (ev_var rfl) ev_c rv_I0) (ev_int (ev_len (ev_var rfl) (ex_l (e05.trans e6) hr1)) (by rw [List.length_map, hrl])) (by omega)) walk_range (fun m σ' H' => ∃ (v9 v10 : Option V), σ' = [some (.ref dc), some (.ref rw'), some (.ref pr), some (.ref up), some (.ref dl), some (.int (s : Int)), some (.int (p : Int)), some (.ref pa), some (.bl (BM.yes (gd rows qs s p m))), v9, v10] ∧ Ex H5 H')
          (fun H7 e7 => ⟨v9, v10, rfl, e6.trans e7⟩) (fun _ _ _ _ _ => trivial) ?_ ?_
        · rintro m y σ' H7 H8 hm ⟨v9, v10, rfl, e7⟩ ⟨rfl, hy⟩
          have hy : y = .int ((s + 1 + m : Nat) : Int) := by
            rw [hy]
            exact congrArg V.int (by omega)
          subst hy
          have hlq : s + 1 + m < qs.length := by omega
          have e08 := e05.trans e7
          obtain ⟨rl, hrl'⟩ : ∃ r, qs[s + 1 + m]? = some r := ⟨_, List.getElem?_eq_getElem hlq⟩
          obtain ⟨lr, hlr, hlrS⟩ := hr2.get (i := s + 1 + m) (r := rowQ rl) (by rw [List.getElem?_map, hrl']; rfl)
          obtain ⟨la, hla⟩ : ∃ a, ds[s + 1 + m]? = some a := ⟨_, List.getElem?_eq_getElem (by rw [hdsl]; exact hlq)⟩
          have hD8 := hD5.mono e7
          obtain ⟨ks, hk1, hk2, hk3⟩ := hD8.at_ _ _ hla
          have hkl := len_of_mem hk2 hk3
          have hupl : SqL K H8 up (optsV (upsOf (BM.qds qs))) := sq_of ((e5.trans e7) _ _ hup)
          refine s_ifAsg (b := BM.yes (gd rows qs s p m) && decide (BM.upAt (BM.qds qs) (s + 1 + m) = some s)) (v := .bl (BM.yes (gd rows qs s p (m + 1)))) (et_and (et_B (ev_var rfl)) fun _ => et_is (et_test (ev_op (ev_op (ev_var rfl) (ev_var rfl) (rv_ixL hupl (atI_nat (optsV_at (upsOf_at (by rw [hql]; exact hlq)))))) (ev_var rfl) (rv_eq (scal_optV _ _)))) beq_optV) (fun q => ?_) (fun q => ?_) fun H9 e9 => ⟨_, _, rfl, e7.trans e9⟩
          · rw [Bool.and_eq_true, BM.yes_iff, decide_eq_true_iff] at q
            obtain ⟨q1, q2⟩ := q
            obtain ⟨kvs, d, hg1, hg2, prs, hg3, hg4⟩ := (hpr.mono e08).get rl.1
            have hlk := el_keysB (td := tOp (rIxL K) (tVar 4) (tVar 9)) (te := tDIn (tTup (tCons (tVar 6) (tCons (tVar 10) tNil))) (tDGet (tVar 2) (tOp (rIxT K) (tOp (rIxL K) (tVar 1) (tVar 9)) (tC (.int 0))))) (σ := [some (.ref dc), some (.ref rw'), some (.ref pr), some (.ref up), some (.ref dl), some (.int (s : Int)), some (.int (p : Int)), some (.ref pa), some (.bl (BM.yes (gd rows qs s p m))), some (.int ((s + 1 + m : Nat) : Int)), v10]) (j := 10) (ws := [10]) (fun z => decide ((p, z) ∈ prs)) hk1 (fun od => ev_op (ev_var rfl) (ev_var rfl) (rv_ixL (.inl (rd_lock hk1 (.inl hD8.ob))) (atI_nat (refs_at hla)))) (by omega) (fun _ => rfl) (fun od z H9 hz e9 => by
              have hL : ∀ {a xs}, SqL K H8 a xs → SqL K H9 a xs := fun h => ex_l e9 (h.imp (rd_lock hk1) id)
              have hT : ∀ {a xs}, SqT K H8 a xs → SqT K H9 a xs := fun h => ex_t e9 (h.imp (rd_lock hk1) id)
              refine ev_is (ev_dinT (k := kP (p, z)) (eu_tup (ea_cons (ev_var rfl) (ea_cons (ev_var rfl) ea_nil)) (by show 2 ≤ 100000; omega)) (ev_dgetK (k := kS (wayS rl.1)) (ev_var rfl) (ev_op (ev_op (ev_var rfl) (ev_var rfl) (rv_ixL (hL (ex_l e08 hr1)) (atI_nat (refs_at hlr)))) ev_c (rv_ixT (i := 0) (hT (ex_t e08 hlrS)) rfl)) (ex_rd e9 (rd_lock hk1 hg1)) hg2) (ex_rd e9 (rd_lock hk1 hg3))) (congrArg V.bl ((dkv_val kP_inj).trans (decide_eq_decide.mpr Iff.rfl))))
            refine ev_is (ev_any' hlk) (congrArg V.bl (BM.yes_eq ?_).symm)
            rw [gd_next, List.any_map, List.any_eq_true]
            constructor
            · rintro ⟨z, hz, hd⟩
              refine ⟨q1, fun _ => ⟨z, ?_, ((hk3 z).mp hz).2.2.2⟩⟩
              rw [que_way hrl']
              exact ((hg4 p z).mp (of_decide_eq_true hd)).2
            · rintro ⟨_, h⟩
              obtain ⟨z, h1, h2⟩ := h q2
              rw [que_way hrl'] at h1
              exact ⟨z, (hk3 z).mpr ⟨h2.lt, by omega, fun q => by omega, h2⟩, decide_eq_true ((hg4 p z).mpr ⟨by rw [BM.dds_len]; exact h2.lt, h1⟩)⟩
          · have : BM.yes (gd rows qs s p m) = BM.yes (gd rows qs s p (m + 1)) := by
              refine BM.yes_congr ?_
              rw [gd_next]
              refine ⟨fun h => ⟨h, fun hu => ?_⟩, And.left⟩
              rw [BM.yes_iff.mpr h, Bool.true_and] at q
              exact absurd hu (of_decide_eq_false q)
            rw [this]
            rfl
        · rintro σ' H7 ⟨v9, v10, rfl, e7⟩
          have hmN : (((qs.length : Nat) : Int) - ((s : Int) + 1)).toNat = qs.length - (s + 1) := by omega
          rw [hmN]
          have hD7 := hD5.mono e7
          obtain ⟨ks, hk1, hk2, hk3⟩ := hD7.at_ _ _ hsa
          have hkl := len_of_mem hk2 hk3
          have hgd := gd_down (s := s) (p := p) (m := qs.length - (s + 1)) OQ (by omega) hp
          refine s_when (b := BM.yes (gd rows qs s p (qs.length - (s + 1)))) (et_B (ev_var rfl)) (fun q H8 e8 => ?_) fun q H8 e8 => ?_
          · have hDn := hgd.mp (BM.yes_iff.mp q)
            have hD8 := hD7.mono e8
            refine s_dput (k := kI p) ev_c (ev_op (ev_var rfl) (ev_var rfl) (rv_ixL (sq_of hD8.ob) (atI_nat (refs_at hsa)))) (ev_var rfl) (e8 _ _ hk1) (by rw [show (dSet ks).length = ks.length from dkv_len]; omega) fun H9 e9 => ?_
            rw [show putK (dSet ks) (kI p) (.bl true) = dSet (addK ks p) from dkv_put kI_inj]
            refine ⟨_, _, _, _, _, rfl, Ex.mut (e5.trans (e7.trans (e8.trans e9))) (hO.new sa (List.mem_of_getElem? hsa)), (hD8.mono e9).put hsa ((e8.trans e9) _ _ hk1) hk2 hk3 hp (fun z => ?_) fun l z hl => ?_⟩
            · constructor
              · rintro ⟨h1, h2, h3⟩
                by_cases hz : z = p
                · exact .inr hz
                · exact .inl ⟨h1, fun _ => by have := h2 rfl; omega, h3⟩
              · rintro (⟨h1, h2, h3⟩ | h)
                · exact ⟨h1, fun _ => by have := h2 rfl; omega, h3⟩
                · subst h
                  exact ⟨Nat.le_refl _, fun _ => Nat.lt_succ_self _, hDn⟩
            · exact ⟨fun ⟨h1, _, h3⟩ => ⟨h1, fun q => absurd q hl, h3⟩, fun ⟨h1, _, h3⟩ => ⟨h1, fun q => absurd q hl, h3⟩⟩
          · have hDn : ¬ BM.Down (BM.docT rows) (BM.queT qs) s p := fun h => by
              rw [BM.yes_iff.mpr (hgd.mpr h)] at q
              cases q
            refine ⟨_, _, _, _, _, rfl, e5.trans (e7.trans e8), (hD7.mono e8).congr fun l z hl hz => ⟨fun ⟨h1, h2, h3⟩ => ⟨h1, fun qq => by have := h2 qq; omega, h3⟩, fun ⟨h1, h2, h3⟩ => ⟨h1, fun qq => ?_, h3⟩⟩⟩
            have := h2 qq
            by_cases hzp : z = p
            · subst hzp
              subst qq
              exact absurd h3 hDn
            · omega
      · rintro σ' H4 ⟨v6, v7, v8, v9, v10, rfl, e4, hD4⟩
        rw [List.length_map, hdl] at hD4
        exact ⟨_, _, _, _, _, _, rfl, e4, hD4.congr fun l z hl hz => ⟨fun ⟨h1, h2, h3⟩ => ⟨by omega, h3⟩, fun ⟨h1, h3⟩ => ⟨by omega, fun _ => hz, h3⟩⟩⟩
    · rintro σ' H' ⟨v5, v6, v7, v8, v9, v10, rfl, e3, hD⟩
      rw [Nat.sub_self] at hD
      exact s_ret (ev_var rfl) fun H3 e4 => k dl H3 (fresh_back e1 h2) ((e1.trans e3).trans e4) ⟨ds, (hD.mono e4).congr fun l p _ _ => ⟨fun h => h.2, fun h => ⟨Nat.zero_le _, h⟩⟩⟩
end
end Bo
set_option Elab.async false
set_option linter.all false
set_option maxRecDepth 100000
set_option maxHeartbeats 4000000
namespace Bo
open PySem PySem.Spec PyProof.Rows L2 Evl BK BL
section
variable {P : Program} {w : World} {K : PySem.W.Frag} {mg : Str → Option Value} {base : Heap} {CD CQ CS CA : Addr}
/-! ### _law_answer -/
structure FullAt (H : Hp) (fl : Addr) (N n : Nat) (T : Nat → Nat → Prop) (fs : List Addr) : Prop where
  ob : H fl = some (.lst (refsV fs))
  len : fs.length = n
  at_ : ∀ (l : Nat) (a : Addr), fs[l]? = some a → ∃ ks, H a = some (.lst (natV ks)) ∧ SetK N (T l) ks
theorem FullAt.mono {H H' : Hp} {fl : Addr} {N n : Nat} {T : Nat → Nat → Prop} {fs : List Addr} (e : Ex H H') (h : FullAt H fl N n T fs) : FullAt H' fl N n T fs := ⟨e _ _ h.ob, h.len, fun l a q => by
  obtain ⟨ks, h1, h2⟩ := h.at_ l a q
  exact ⟨ks, e _ _ h1, h2⟩⟩
theorem refs_ne_nat {fs : List Addr} {ks : List Nat} (h : refsV fs = natV ks) : fs = [] := by
  cases fs with
  | nil => rfl
  | cons c cs =>
    cases ks with
    | nil => cases h
    | cons m ms =>
      have h5 : V.ref c :: refsV cs = V.int (m : Int) :: natV ms := h
      injection h5 with h6
      cases h6
theorem FullAt.snoc {H : Hp} {fl : Addr} {N n : Nat} {T : Nat → Nat → Prop} {fs : List Addr} (h : FullAt H fl N n T fs) {p : Addr} {ks : List Nat} (hp : H p = some (.lst (natV ks))) (hS : SetK N (T n) ks) (hne : p ≠ fl) : FullAt (upd H fl (.lst (refsV fs ++ [.ref p]))) fl N (n + 1) T (fs ++ [p]) := by
  refine ⟨?_, by rw [List.length_append, h.len]; rfl, fun l a h2 => ?_⟩
  · rw [upd_same, refs_append]
    rfl
  · by_cases hl : l < n
    · rw [List.getElem?_append_left (by rw [h.len]; exact hl)] at h2
      obtain ⟨ks2, h3, h4⟩ := h.at_ l a h2
      refine ⟨ks2, ?_, h4⟩
      rw [upd_ne fun z => ?_]
      · exact h3
      · rw [z, h.ob] at h3
        have h5 : refsV fs = natV ks2 := by
          injection h3 with h3
          injection h3
        rw [refs_ne_nat h5] at h2
        simp at h2
    · rw [List.getElem?_append_right (by rw [h.len]; omega), h.len] at h2
      have hz : l - n = 0 := by
        by_cases z : l - n = 0
        · exact z
        · rw [List.getElem?_eq_none (by rw [List.length_singleton]; omega)] at h2
          cases h2
      rw [hz] at h2
      have e3 : p = a := by simpa using h2
      have e4 : l = n := by omega
      subst e3
      subst e4
      exact ⟨ks, by rw [upd_ne hne]; exact hp, hS⟩
theorem SetK.filter {N : Nat} {P P' : Nat → Prop} {ks : List Nat} {g : Nat → Bool} (h : SetK N P ks) (i : ∀ p, p < N → (P' p ↔ P p ∧ g p = true)) : SetK N P' (ks.filter g) := ⟨h.nd.filter _, fun k => by
  rw [List.mem_filter, h.mem k]
  constructor
  · rintro ⟨⟨h1, h2⟩, h3⟩
    exact ⟨h1, (i k h1).mpr ⟨h2, h3⟩⟩
  · rintro ⟨h1, h2⟩
    obtain ⟨h3, h4⟩ := (i k h1).mp h2
    exact ⟨⟨h1, h3⟩, h4⟩⟩
theorem el_sortL {σ : L2.St} {H : Hp} {ta : TE} {a : Addr} {N : Nat} {P : Nat → Prop} {ks : List Nat} (h : Ev ta σ H (.ref a)) (hd : SqL K H a (natV ks)) (hS : SetK N P ks) (hN : N < 64) : EvL (tCB (rSorted K) (tCons ta tNil)) σ H (natV (BM.tbl N P)) := fun H1 e Q q =>
  h H1 e _ fun H2 e2 => ⟨a, BM.natInts ks, rfl, by rw [ints_V]; exact ex_l (e.trans e2) hd, by rw [BM.ints_len]; have := hS.len; omega, fun ys p h1 h2 hp => by
    rw [BM.sorted_ints h1 h2 hS.nd hS.mem, ints_V]
    exact q p _ (fresh_back e2 hp) (e2.trans (Ex.new hp)) upd_same⟩
def spAns (K : PySem.W.Frag) : Sp := spN fun vs H P => ∃ (dc rw' : Addr) (w : Nat) (rows : List DR) (qs : List QR), vs = [.ref dc, .ref rw', .int (w : Int)] ∧ RowsAt K H dc (rows.map rowD) ∧ OkD rows ∧ rows.length < 64 ∧ RowsAt K H rw' (qs.map rowQ) ∧ OkQ qs ∧ w < qs.length ∧ P = fun p H2 => H2 p = some (.lst (natV (Fb rows qs (root0 qs) w)))
theorem sc_law_answer : FnScope ["_law_document", "_law_rows_here", "_law_wanted", "_law_pairs_here", "_law_uppers_here", "_law_down_here", "_law_full", "_law_step", "_law_above", "_law_row", "_law_part", "_law_one"] ["_law_document", "_law_rows_here", "_law_wanted"] (defScope s__law_answer) := ⟨rfl, rfl, rfl, by decide +kernel, rfl, by decide +kernel, by decide +kernel⟩
theorem fn__law_answer (T : Txt K mg CD CQ CS CA) : Fn P w K mg base "_law_answer" 3 ["_law_document", "_law_rows_here", "_law_wanted"] (spAns K) := by
  refine Fn.of T.g__law_answer sc_law_answer (fun _ _ _ _ _ _ us hl => match us, hl with | [_, _, _], _ => rfl) (fun vs H Q E h => ?_) (fun f cdv A outer s H vs Q E hr h => ?_)
  · obtain ⟨P, ⟨dc, rw', w0, rows, qs, rfl, _⟩, _⟩ := h
    rfl
  · obtain ⟨P', ⟨dc, rw', w0, rows, qs, rfl, hdc, O, h64, hrw, OQ, hw, rfl⟩, k⟩ := h
    refine ⟨_, (pss_cons (ps_set (i := 3) sc_law_answer.nd rfl (Or.inr rfl) (Fn.pe (by exact fn__law_pairs T) (hr.mono (by decide)) (by rfl) (pa_cons (pv 0) pa_nil)))
  (pss_cons (ps_set (i := 4) sc_law_answer.nd rfl (Or.inl rfl) (Fn.pe (by exact fn__law_uppers T) (hr.mono (by decide)) (by rfl) (pa_cons (pe_lc (own := [("_law_row", 9)]) (g := (gName 9)) rfl sc_law_answer.nd (pi_list (pv 1)) (blkOk_by (by kernel_rfl)) (fun _ _ _ _ _ => (pg_name (i := 9) sc_law_answer.nd rfl (Or.inl rfl))) (fun _ _ _ _ _ => pts_nil) (fun _ _ _ _ _ => (pe_ix (show IxR _ (rIxT K) from ix_tup) (pv 9) pe_int (fun _ _ => rfl)))) pa_nil)))
  (pss_cons (ps_set (i := 5) sc_law_answer.nd rfl (Or.inl rfl) (Fn.pe (by exact fn__law_down T) (hr.mono (by decide)) (by rfl) (pa_cons (pv 0) (pa_cons (pv 1) (pa_cons (pv 3) pa_nil)))))
  (pss_cons (ps_set (i := 6) sc_law_answer.nd rfl (Or.inl rfl) (pe_lst (pa_cons (pe_lock (pe_lc (own := [("_law_part", 10)]) (g := (gName 10)) rfl sc_law_answer.nd (pi_keys (pe_ix ix_list (pv 5) pe_int (fun _ _ => rfl))) (blkOk_by (by kernel_rfl)) (fun _ _ _ _ _ => (pg_name (i := 10) sc_law_answer.nd rfl (Or.inl rfl))) (fun _ _ _ _ _ => (pts_one (PW.pt (pw_or (pt_cmpR op_eq (pe_ix (show IxR _ (rIxT K) from ix_tup) (pe_ix (show IxR _ (rIxL K) from ix_list) (pv 1) pe_int (fun _ _ => rfl)) pe_int (fun _ _ => rfl)) pe_str (nomark _)) (pw_or1 (pt_cmpR op_eq (pv 10) pe_int (nomark _))))))) (fun _ _ _ _ _ => (pv 10)))) pa_nil)))
  (pss_cons (ps_for PassesOwn.never rfl (pi_range2 rfl T.z_range (pa_cons pe_int (pa_cons (pe_callB call_len_seq (by rfl) T.z_len (by decide +kernel) (pa_cons (pv 1) pa_nil)) pa_nil))) (pg_name (i := 7) sc_law_answer.nd rfl (Or.inr rfl)) (pss_cons (ps_set (i := 8) sc_law_answer.nd rfl (Or.inr rfl) (pe_ix ix_list (pv 6) (pe_ix ix_list (pv 4) (pv 7) (fun _ _ => rfl)) (fun _ _ => rfl)))
  (pss_one (ps_expr (pe_bm PySem.F.plainAttrs_list PySem.F.slot_list_append PySem.F.type_list_append mt_append (pv 6) (pa_cons (pe_lock (pe_lc (own := [("_law_part", 10)]) (g := (gName 10)) rfl sc_law_answer.nd (pi_keys (pe_ix ix_list (pv 5) (pv 7) (fun _ _ => rfl))) (blkOk_by (by kernel_rfl)) (fun _ _ _ _ _ => (pg_name (i := 10) sc_law_answer.nd rfl (Or.inr rfl))) (fun _ _ _ _ _ => (pts_one (pt_val (pe_callB (show CallR _ (.builtin "any") (rAny K) from cr_any rfl) (by rfl) T.z_any (by decide +kernel) (pa_cons (pe_lc (own := [("_law_one", 11)]) (g := (gName 11)) rfl sc_law_answer.nd (show PI _ _ _ (iList K _) from pi_list (pv 8)) (blkOk_by (by kernel_rfl)) (fun _ _ _ _ _ => (pg_name (i := 11) sc_law_answer.nd rfl (Or.inl rfl))) (fun _ _ _ _ _ => pts_nil) (fun _ _ _ _ _ => (pe_cmp (pc_din (hu_of hr) (pe_tup (pa_cons (pv 11) (pa_cons (pv 10) pa_nil))) (pe_dget (hu_of hr) (pv 3) (pe_ix (show IxR _ (rIxT K) from ix_tup) (pe_ix (show IxR _ (rIxL K) from ix_list) (pv 1) (pv 7) (fun _ _ => rfl)) pe_int (fun _ _ => rfl)) (fun _ _ => rfl)))))) pa_nil))))) (fun _ _ _ _ _ => (pv 10)))) pa_nil))))))
  (pss_one (ps_ret (pe_callB cr_sorted (by rfl) T.z_sorted (by decide +kernel) (pa_cons (pe_ix ix_list (pv 6) (pv 2) (fun _ _ => rfl)) pa_nil))))))))), ?_⟩
    have hN := O.many
    have hM := OQ.many
    have hql : (BM.qds qs).length = qs.length := BM.qds_len qs
    obtain ⟨ras, hr1, hr2⟩ := id hrw
    have hrl : ras.length = qs.length := by rw [hr2.len, List.length_map]
    refine q_asgN (P := fun D H2 => PairsAt H2 D (BM.dds rows)) (en_call (ea_cons (ev_var rfl) ea_nil) fun H2 e2 => ⟨dc, rows, rfl, hdc.mono e2, O.good, by omega, rfl⟩) fun pr H1 h1 e1 hpr => ?_
    refine q_asgN (P := fun p H2 => H2 p = some (.lst (optsV (upsOf (BM.qds qs))))) (en_call1L (el_col (g := fun (r : QR) => r.2.2) (j := 9) (ws := [9]) (c := 2) (ev_var rfl) (hrw.mono e1) (by omega) (fun _ => rfl) (fun _ => rfl) fun _ => rfl) fun p H2 e2 hp => ⟨p, BM.qds qs, rfl, sq_of hp, OQ.good, by omega, rfl⟩) fun up H2 h2 e2 hup => ?_
    have e02 := e1.trans e2
    refine q_asgN (P := fun p H2 => ∃ ds, DownAt H2 p rows.length qs.length (BM.Down (BM.docT rows) (BM.queT qs)) ds) (en_call (ea_cons (ev_var rfl) (ea_cons (ev_var rfl) (ea_cons (ev_var rfl) ea_nil))) fun H3 e3 => ⟨dc, rw', pr, rows, qs, rfl, hdc.mono (e02.trans e3), O, hrw.mono (e02.trans e3), OQ, hpr.mono (e2.trans e3), rfl⟩) fun dl H3 h3 e3 ⟨ds, hD⟩ => ?_
    have e03 := e02.trans e3
    have hdsl := hD.len
    obtain ⟨d0, hd0⟩ : ∃ a, ds[0]? = some a := ⟨_, List.getElem?_eq_getElem (by rw [hdsl]; exact OQ.pos)⟩
    obtain ⟨ks0, hk1, hk2, hk3⟩ := hD.at_ _ _ hd0
    have hkl := len_of_mem hk2 hk3
    obtain ⟨r0, hr0⟩ : ∃ r, qs[0]? = some r := ⟨_, List.getElem?_eq_getElem OQ.pos⟩
    obtain ⟨a0, ha0, ha0S⟩ := hr2.get (i := 0) (r := rowQ r0) (by rw [List.getElem?_map, hr0]; rfl)
    have hl0 := el_keysF (td := tOp (rIxL K) (tVar 5) (tC (.int 0))) (t := tOr (tTest (tOp rEq (tOp (rIxT K) (tOp (rIxL K) (tVar 1) (tC (.int 0))) (tC (.int 0))) (tC (.str "//")))) (tTest (tOp rEq (tVar 10) (tC (.int 0))))) (σ := [some (.ref dc), some (.ref rw'), some (.int (w0 : Int)), some (.ref pr), some (.ref up), some (.ref dl), none, none, none, none, none, none]) (j := 10) (ws := [10])
      (fun (p : Nat) => decide (V.str (wayS r0.1) = V.str "//") || decide (V.int (p : Int) = V.int 0)) hk1 (fun od => ev_op (ev_var rfl) ev_c (rv_ixL (.inl (rd_lock hk1 (.inl hD.ob))) (atI_nat (j := 0) (refs_at hd0)))) (by omega) (fun _ => rfl) (fun _ => rfl) (fun od z H9 hz e9 => by
        have hL : ∀ {a xs}, SqL K H3 a xs → SqL K H9 a xs := fun h => ex_l e9 (h.imp (rd_lock hk1) id)
        have hT : ∀ {a xs}, SqT K H3 a xs → SqT K H9 a xs := fun h => ex_t e9 (h.imp (rd_lock hk1) id)
        exact et_or (et_test (ev_op (ev_op (ev_op (ev_var rfl) ev_c (rv_ixL (hL (ex_l e03 hr1)) (atI_nat (j := 0) (refs_at ha0)))) ev_c (rv_ixT (i := 0) (hT (ex_t e03 ha0S)) rfl)) ev_c (rv_eq rfl))) fun _ => et_test (ev_op (ev_var rfl) ev_c (rv_eq rfl)))
    have hS0 : SetK rows.length (BM.Full (BM.docT rows) (BM.queT qs) (root0 qs) 0) (ks0.filter fun (p : Nat) => decide (V.str (wayS r0.1) = V.str "//") || decide (V.int (p : Int) = V.int 0)) := by
      refine SetK.filter (P := BM.Down (BM.docT rows) (BM.queT qs) 0) ⟨hk2, hk3⟩ fun p hp => ?_
      rw [BM.full_zero (BM.queT_ok OQ.good)]
      refine and_congr Iff.rfl ?_
      unfold root0
      rw [que_way hr0, Bool.or_eq_true, decide_eq_true_iff, decide_eq_true_iff]
      refine or_congr ?_ ?_
      · cases r0.1 with
        | false => exact ⟨fun h => (by cases h), fun h => absurd h (by decide +kernel)⟩
        | true => exact ⟨fun _ => rfl, fun _ => rfl⟩
      · constructor
        · intro h
          rw [h]
          rfl
        · intro h
          injection h with h
          omega
    refine q_asgN (en_lst1 hl0) fun fl H4 h4 e4 ⟨c0, hf1, hf2, hf3⟩ => ?_
    have e04 := e03.trans e4
    refine q_forI (ei_range2 (i := 1) (j := ((qs.length : Nat) : Int)) ev_c (ev_int (ev_len (ev_var rfl) (ex_l e04 hr1)) (by rw [List.length_map, hrl])) (by omega)) walk_range (fun i σ' H' => ∃ (v7 v8 v9 v10 v11 : Option V) (fs : List Addr), σ' = [some (.ref dc), some (.ref rw'), some (.int (w0 : Int)), some (.ref pr), some (.ref up), some (.ref dl), some (.ref fl), v7, v8, v9, v10, v11] ∧ Ex H3 H' ∧ FullAt H' fl rows.length (i + 1) (BM.Full (BM.docT rows) (BM.queT qs) (root0 qs)) fs)
      (fun H5 e5 => ⟨none, none, none, none, none, [c0], rfl, e4.trans e5, e5 _ _ hf1, rfl, fun l c h2 => by
        cases l with
        | zero =>
          have : c0 = c := by simpa using h2
          rw [← this]
          exact ⟨_, e5 _ _ hf2, hS0⟩
        | succ l => simp at h2⟩) (fun _ _ _ _ _ => trivial) ?_ ?_
    · rintro i y σ' H5 H6 hi ⟨v7, v8, v9, v10, v11, fs, rfl, e5, hF⟩ ⟨rfl, hy⟩
      have hy : y = .int ((i + 1 : Nat) : Int) := by
        rw [hy]
        exact congrArg V.int (by omega)
      subst hy
      have hs : i + 1 < qs.length := by omega
      obtain ⟨u, hupu, hui⟩ : ∃ u, BM.upAt (BM.qds qs) (i + 1) = some u ∧ u < i + 1 := by
        rcases up_opt OQ hs with h | h
        · omega
        · exact h
      have hupL : SqL K H6 up (optsV (upsOf (BM.qds qs))) := sq_of ((e3.trans e5) _ _ hup)
      obtain ⟨fu, hfu⟩ : ∃ a, fs[u]? = some a := ⟨_, List.getElem?_eq_getElem (by rw [hF.len]; exact hui)⟩
      obtain ⟨us, hus, husS⟩ := hF.at_ _ _ hfu
      refine q_asg (ev_op (z := .ref fu) (ev_var rfl) (ev_is (ev_op (ev_var rfl) (ev_var rfl) (rv_ixL hupL (atI_nat (optsV_at (upsOf_at (by rw [hql]; exact hs)))))) (by rw [hupu]; rfl : optV (BM.upAt (BM.qds qs) (i + 1)) = .int (u : Int))) (rv_ixL (sq_of hF.ob) (atI_nat (refs_at hfu)))) fun H7 e7 => ?_
      have e37 := e5.trans e7
      have hD7 := hD.mono e37
      obtain ⟨da, hda⟩ : ∃ a, ds[i + 1]? = some a := ⟨_, List.getElem?_eq_getElem (by rw [hdsl]; exact hs)⟩
      obtain ⟨ks, hk1, hk2, hk3⟩ := hD7.at_ _ _ hda
      have hkl := len_of_mem hk2 hk3
      obtain ⟨r, hr'⟩ : ∃ r, qs[i + 1]? = some r := ⟨_, List.getElem?_eq_getElem hs⟩
      obtain ⟨ra, hra, hraS⟩ := hr2.get (i := i + 1) (r := rowQ r) (by rw [List.getElem?_map, hr']; rfl)
      have e07 := e03.trans e37
      obtain ⟨kvs, dw, hg1, hg2, prs, hg3, hg4⟩ := (hpr.mono ((e2.trans e3).trans e37)).get r.1
      have husl := husS.len
      have hl := el_keysF (td := tOp (rIxL K) (tVar 5) (tVar 7)) (t := tB (tCB (rAny K) (tCons (tLc (iList K (tVar 8)) (gName 11) tYes (tDIn (tTup (tCons (tVar 11) (tCons (tVar 10) tNil))) (tDGet (tVar 3) (tOp (rIxT K) (tOp (rIxL K) (tVar 1) (tVar 7)) (tC (.int 0))))) [11]) tNil))) (σ := [some (.ref dc), some (.ref rw'), some (.int (w0 : Int)), some (.ref pr), some (.ref up), some (.ref dl), some (.ref fl), some (.int ((i + 1 : Nat) : Int)), some (.ref fu), v9, v10, v11]) (j := 10) (ws := [10])
        (fun (p : Nat) => (us.map fun z => decide ((z, p) ∈ prs)).any id) hk1 (fun od => ev_op (ev_var rfl) (ev_var rfl) (rv_ixL (.inl (rd_lock hk1 (.inl hD7.ob))) (atI_nat (refs_at hda)))) (by omega) (fun _ => rfl) (fun _ => rfl) (fun od p H9 hz e9 => by
          have hL : ∀ {a xs}, SqL K H7 a xs → SqL K H9 a xs := fun h => ex_l e9 (h.imp (rd_lock hk1) id)
          have hT : ∀ {a xs}, SqT K H7 a xs → SqT K H9 a xs := fun h => ex_t e9 (h.imp (rd_lock hk1) id)
          have hb := el_bools (K := K) (σ := [some (.ref dc), some (.ref rw'), some (.int (w0 : Int)), some (.ref pr), some (.ref up), some (.ref dl), some (.ref fl), some (.int ((i + 1 : Nat) : Int)), some (.ref fu), v9, some (.int (p : Int)), v11]) (H := H9) (a := fu) (tl := tVar 8) (j := 11) (ws := [11]) (te := tDIn (tTup (tCons (tVar 11) (tCons (tVar 10) tNil))) (tDGet (tVar 3) (tOp (rIxT K) (tOp (rIxL K) (tVar 1) (tVar 7)) (tC (.int 0))))) (ps := us)
            (fun z => decide ((z, p) ∈ prs)) (ev_var rfl) (hL (sq_of (e7 _ _ hus))) (by omega) (fun _ => rfl) (fun z H8 hz e8 => by
              refine ev_is (ev_dinT (k := kP (z, p)) (eu_tup (ea_cons (ev_var rfl) (ea_cons (ev_var rfl) ea_nil)) (by show 2 ≤ 100000; omega)) (ev_dgetK (k := kS (wayS r.1)) (ev_var rfl) (ev_op (ev_op (ev_var rfl) (ev_var rfl) (rv_ixL (ex_l e8 (hL (ex_l e07 hr1))) (atI_nat (refs_at hra)))) ev_c (rv_ixT (i := 0) (ex_t e8 (hT (ex_t e07 hraS))) rfl)) (ex_rd (e9.trans e8) (rd_lock hk1 hg1)) hg2) (ex_rd (e9.trans e8) (rd_lock hk1 hg3))) (congrArg V.bl ((dkv_val kP_inj).trans (decide_eq_decide.mpr Iff.rfl))))
          exact et_B (ev_any' hb))
      have hS : SetK rows.length (BM.Full (BM.docT rows) (BM.queT qs) (root0 qs) (i + 1)) (ks.filter fun (p : Nat) => (us.map fun z => decide ((z, p) ∈ prs)).any id) := by
        refine SetK.filter (P := BM.Down (BM.docT rows) (BM.queT qs) (i + 1)) ⟨hk2, hk3⟩ fun p hp => ?_
        rw [BM.full_step (BM.queT_ok OQ.good) (s := i + 1) (u := u) hs hupu]
        refine and_congr Iff.rfl ?_
        rw [List.any_map, List.any_eq_true, que_way hr']
        constructor
        · rintro ⟨z, hF, hR⟩
          exact ⟨z, (husS.mem z).mpr ⟨hF.lt, hF⟩, decide_eq_true ((hg4 z p).mpr ⟨by rw [BM.dds_len]; exact hp, hR⟩)⟩
        · rintro ⟨z, hz, hd⟩
          exact ⟨z, ((husS.mem z).mp hz).2, ((hg4 z p).mp (of_decide_eq_true hd)).2⟩
      refine s_appL (e7 _ _ hF.ob) (ev_var rfl) hl (by rw [List.length_map, hF.len]; omega) fun p H8 hp e8 h8 => ?_
      have hpt : p ≠ fl := fun z => by
        rw [z, e7 _ _ hF.ob] at hp
        cases hp
      exact ⟨_, _, _, _, _, fs ++ [p], rfl, Ex.mut (e37.trans e8) h4, (hF.mono (e7.trans e8)).snoc h8 hS hpt⟩
    · rintro σ' H5 ⟨v7, v8, v9, v10, v11, fs, rfl, e5, hF⟩
      rw [show (((qs.length : Nat) : Int) - 1).toNat + 1 = qs.length by omega] at hF
      obtain ⟨fw, hfw⟩ : ∃ a, fs[w0]? = some a := ⟨_, List.getElem?_eq_getElem (by rw [hF.len]; exact hw)⟩
      obtain ⟨us, hus, husS⟩ := hF.at_ _ _ hfw
      exact s_retL (el_sortL (ev_op (ev_var rfl) (ev_var rfl) (rv_ixL (sq_of hF.ob) (atI_nat (refs_at hfw)))) (sq_of hus) husS h64) fun p H6 hp e6 h6 => k p H6 (fresh_back (e03.trans e5) hp) ((e03.trans e5).trans e6) h6
/-! ### _law_end -/
def spLEnd (K : PySem.W.Frag) : Sp := spV fun vs H v => ∃ (a : Addr) (qs : List QR) (s : Nat), vs = [.ref a, .int (s : Int)] ∧ RowsAt K H a (qs.map rowQ) ∧ s < qs.length ∧ v = .int ((BM.endAt (BM.qds qs) s : Nat) : Int)
theorem sc_law_end : FnScope ["_law_rows_here", "_law_step", "_law_last"] ["_law_rows_here", "_law_step"] (defScope s__law_end) := ⟨rfl, rfl, rfl, by decide +kernel, rfl, by decide +kernel, by decide +kernel⟩
theorem fn__law_end (T : Txt K mg CD CQ CS CA) : Fn P w K mg base "_law_end" 1 ["_law_rows_here", "_law_step"] (spLEnd K) := by
  refine Fn.of T.g__law_end sc_law_end (fun _ _ _ _ _ _ us hl => match us, hl with | [_, _], _ => rfl) (fun vs H Q E h => ?_) (fun f cdv A outer s H vs Q E hr h => ?_)
  · obtain ⟨v, ⟨a, qs, s, rfl, _⟩, _⟩ := h
    rfl
  · obtain ⟨v, ⟨a, qs, s, rfl, hR, hs, rfl⟩, k⟩ := h
    refine ⟨_, (pss_cons (ps_set (i := 2) sc_law_end.nd rfl (Or.inl rfl) (pv 1))
  (pss_cons (ps_while PassesOwn.never (PW.pt (pw_and (pt_cmpR op_lt (pe_op op_add (pv 2) pe_int) (pe_callB call_len_seq (by rfl) T.z_len (by decide +kernel) (pa_cons (pv 0) pa_nil)) (nomark _)) (pw_and1 (pt_cmpR op_gt (pe_ix ix_tup (pe_ix ix_list (pv 0) (pe_op op_add (pv 2) pe_int) (fun _ _ => rfl)) pe_int (fun _ _ => rfl)) (pe_ix ix_tup (pe_ix ix_list (pv 0) (pv 1) (fun _ _ => rfl)) pe_int (fun _ _ => rfl)) (nomark _))))) (pss_one (ps_set (i := 2) sc_law_end.nd rfl (Or.inl rfl) (pe_op op_add (pv 2) pe_int))))
  (pss_one (ps_ret (pv 2))))), ?_⟩
    have hql : (BM.qds qs).length = qs.length := BM.qds_len qs
    obtain ⟨ras, hr1, hr2⟩ := id hR
    have hrl : ras.length = qs.length := by rw [hr2.len, List.length_map]
    refine q_asg (ev_var rfl) fun H1 e1 => ?_
    refine q_while (fun m σ2 H3 => ∃ x : Nat, σ2 = [some (.ref a), some (.int (s : Int)), some (.int (x : Int))] ∧ Ex H H3 ∧ s ≤ x ∧ x < qs.length ∧ (∀ m, s < m → m ≤ x → BM.dep (BM.qds qs) s < BM.dep (BM.qds qs) m) ∧ m = qs.length - x) (qs.length - s) ⟨s, rfl, e1, Nat.le_refl _, hs, fun m h1 h2 => by omega, rfl⟩ ?_
    rintro m σ2 H3 ⟨x, rfl, e3, x1, x2, x3, rfl⟩
    have hrow : ∀ i, i < qs.length → ∃ ra, ras[i]? = some ra ∧ SqT K H3 ra (rowQ (qs[i]!)) ∧ BM.dep (BM.qds qs) i = (qs[i]!).2.2 := fun i hi => by
      obtain ⟨ra, h1, h2⟩ := hr2.get (i := i) (r := rowQ qs[i]) (by rw [List.getElem?_map, List.getElem?_eq_getElem hi]; rfl)
      rw [getElem!_pos qs i hi]
      exact ⟨ra, h1, ex_t e3 h2, qds_at hi⟩
    obtain ⟨rs, hrs, hrsS, hds⟩ := hrow s hs
    refine ⟨decide (((x : Int) + 1) < (qs.length : Int)) && decide (BM.dep (BM.qds qs) s < BM.dep (BM.qds qs) (x + 1)), et_and (et_test (ev_op (ev_op (ev_var rfl) ev_c rv_I0) (ev_int (ev_len (ev_var rfl) (ex_l e3 hr1)) (by rw [List.length_map, hrl])) rv_I0)) (fun q => ?_), fun q H4 e4 => ?_, fun q H4 e4 => ?_⟩
    · have hx : x + 1 < qs.length := by have := of_decide_eq_true q; omega
      obtain ⟨rx, hrx, hrxS, hdx⟩ := hrow (x + 1) hx
      refine et_is (et_test (ev_op (ev_op (ev_op (ev_var rfl) (ev_op (ev_var rfl) ev_c rv_I0) (rv_ixL (ex_l e3 hr1) (at_nat (j := x + 1) (by rw [Int.natCast_add]; rfl) (refs_at hrx)))) ev_c (rv_ixT (i := 2) hrxS rfl)) (ev_op (ev_op (ev_var rfl) (ev_var rfl) (rv_ixL (ex_l e3 hr1) (atI_nat (refs_at hrs)))) ev_c (rv_ixT (i := 2) hrsS rfl)) rv_I0)) ?_
      rw [hdx, hds]
      exact decide_eq_decide.mpr Int.ofNat_lt
    · rw [Bool.and_eq_true, decide_eq_true_iff, decide_eq_true_iff] at q
      refine ⟨fun σ3 H5 => σ3 = [some (.ref a), some (.int (s : Int)), some (.int ((x + 1 : Nat) : Int))] ∧ Ex H H5, ?_, ?_⟩
      · rintro σ3 H5 ⟨rfl, e5⟩
        refine ⟨qs.length - (x + 1), by omega, x + 1, rfl, e5, by omega, by omega, fun m h1 h2 => ?_, rfl⟩
        by_cases hm : m ≤ x
        · exact x3 m h1 hm
        · have : m = x + 1 := by omega
          subst this
          exact q.2
      · exact s_asg (ev_int (ev_op (ev_var rfl) ev_c rv_I0) (by rw [Int.natCast_add]; rfl)) fun H5 e5 => ⟨rfl, (e3.trans e4).trans e5⟩
    · have hend : BM.endAt (BM.qds qs) s = x := by
        refine BM.end_eq (by rw [hql]; exact hs) (by rw [hql]; exact x2) x1 x3 fun h => ?_
        rw [hql] at h
        rw [show decide (((x : Int) + 1) < (qs.length : Int)) = true from decide_eq_true (by omega), Bool.true_and] at q
        have := of_decide_eq_false q
        omega
      rw [hend] at k
      exact s_ret (ev_var rfl) fun H5 e5 => k H5 ((e3.trans e4).trans e5)
end
end Bo
set_option Elab.async false
set_option linter.all false
set_option maxRecDepth 100000
set_option maxHeartbeats 4000000
namespace Bo
open PySem PySem.Spec PyProof.Rows L2 Evl BK BL
section
variable {P : Program} {w : World} {K : PySem.W.Frag} {mg : Str → Option Value} {base : Heap} {CD CQ CS CA : Addr}
section
variable {σ : L2.St} {H : Hp} {te td ta tb : TE} {D : Ends} {tz : TS} {R : List Addr → Hp → Prop}
theorem en_catA {xs : List V} {n : Nat} (ha : EvL ta σ H xs) (hb : EvN tb σ H (fun p H2 => ∃ ms, H2 p = some (.lst (refsV ms)) ∧ ms.length = n ∧ R ms H2)) (hm : ∀ ms H1 H2, Ex H1 H2 → R ms H1 → R ms H2) (hz : xs.length + n ≤ 100000) : EvN (tOp rCat ta tb) σ H (fun p H2 => ∃ ms, H2 p = some (.lst (xs ++ refsV ms)) ∧ ms.length = n ∧ R ms H2) := fun H1 e Q q =>
  ha H1 e _ fun a H2 _ e2 h1 => hb H2 (e.trans e2) _ fun b H3 _ e3 ⟨ms, h2, h3, h4⟩ => ⟨a, b, xs, refsV ms, rfl, rfl, e3 a _ h1, h2, sz_of (by rw [List.length_map]; omega), fun p hp => q p _ (fresh_back (e2.trans e3) hp) ((e2.trans e3).trans (Ex.new hp)) ⟨ms, upd_same, h3, hm _ _ _ (Ex.new hp) h4⟩⟩
theorem en_catB {xs ys : List V} {n : Nat} (ha : EvN ta σ H (fun p H2 => ∃ ms, H2 p = some (.lst (xs ++ refsV ms)) ∧ ms.length = n ∧ R ms H2)) (hb : EvL tb σ H ys) (hm : ∀ ms H1 H2, Ex H1 H2 → R ms H1 → R ms H2) (hz : xs.length + n + ys.length ≤ 100000) : EvN (tOp rCat ta tb) σ H (fun p H2 => ∃ ms, H2 p = some (.lst (xs ++ refsV ms ++ ys)) ∧ R ms H2) := fun H1 e Q q =>
  ha H1 e _ fun a H2 _ e2 ⟨ms, h1, h3, h4⟩ => hb H2 (e.trans e2) _ fun b H3 _ e3 h2 => ⟨a, b, xs ++ refsV ms, ys, rfl, rfl, e3 a _ h1, h2, sz_of (by rw [List.length_append, List.length_map]; omega), fun p hp => q p _ (fresh_back (e2.trans e3) hp) ((e2.trans e3).trans (Ex.new hp)) ⟨ms, upd_same, hm _ _ _ (e3.trans (Ex.new hp)) h4⟩⟩
theorem en_tupV {a b : V} (h : Ev ta σ H a) (hb : Ev tb σ H b) : EvN (tTup (tCons ta (tCons tb tNil))) σ H (fun p H2 => H2 p = some (.tup [a, b])) := fun H1 e Q q =>
  h H1 e _ fun H2 e2 => hb H2 (e.trans e2) _ fun H3 e3 => ⟨sz_of (by show 2 ≤ 100000; omega), fun p hp => q p _ (fresh_back (e2.trans e3) hp) ((e2.trans e3).trans (Ex.new hp)) upd_same⟩
end
/-! ### _law_laid -/
def spLLaid (K : PySem.W.Frag) : Sp := spN fun vs H P => ∃ (v r rw' mr : Addr) (w g : Nat) (V R : List QR), vs = [.ref v, .ref r] ∧ SqT K H v [.ref rw', .int (w : Int)] ∧ SqT K H r [.ref mr, .int (g : Int)] ∧ RowsAt K H rw' (V.map rowQ) ∧ OkQ V ∧ w < V.length ∧ RowsAt K H mr (R.map rowQ) ∧ OkQ R ∧
  P = fun p H2 => ∃ l, H2 p = some (.tup [.ref l, .int ((BM.e2 w (BM.behind V w) g : Nat) : Int)]) ∧ RowsAt K H2 l ((BM.laidRows V R w).map rowQ)
theorem sc_law_laid : FnScope ["_law_view", "_law_rest_here", "_law_rows_here", "_law_wanted", "_law_more", "_law_goal", "_law_behind", "_law_deep", "_law_way", "_law_label", "_law_depth_here"] ["_law_view", "_law_rest_here"] (defScope s__law_laid) := ⟨rfl, rfl, rfl, by decide +kernel, rfl, by decide +kernel, by decide +kernel⟩
theorem fn__law_laid (T : Txt K mg CD CQ CS CA) : Fn P w K mg base "_law_laid" 2 ["_law_view", "_law_rest_here"] (spLLaid K) := by
  refine Fn.of T.g__law_laid sc_law_laid (fun _ _ _ _ _ _ us hl => match us, hl with | [_, _], _ => rfl) (fun vs H Q E h => ?_) (fun f cdv A outer s H vs Q E hr h => ?_)
  · obtain ⟨P, ⟨v, r, rw', mr, w0, g0, Vs, Rs, rfl, _⟩, _⟩ := h
    rfl
  · obtain ⟨P', ⟨va, ra, rw', mr, w0, g0, Vs, Rs, rfl, hv, hr0, hV, OV, hw, hRr, OR, rfl⟩, k⟩ := h
    refine ⟨_, (pss_cons (ps_asg (pv 0) (pg_tup rfl (pgs_cons (pg_name (i := 2) sc_law_laid.nd rfl (Or.inl rfl)) (pgs_cons (pg_name (i := 3) sc_law_laid.nd rfl (Or.inl rfl)) pgs_nil))))
  (pss_cons (ps_asg (pv 1) (pg_tup rfl (pgs_cons (pg_name (i := 4) sc_law_laid.nd rfl (Or.inl rfl)) (pgs_cons (pg_name (i := 5) sc_law_laid.nd rfl (Or.inl rfl)) pgs_nil))))
  (pss_cons (ps_set (i := 6) sc_law_laid.nd rfl (Or.inl rfl) (pe_op op_add (Fn.pe (by exact fn__law_end T) (hr.mono (by decide)) (by rfl) (pa_cons (pv 2) (pa_cons (pv 3) pa_nil))) pe_int))
  (pss_cons (ps_set (i := 7) sc_law_laid.nd rfl (Or.inr rfl) (pe_op op_sub (pe_ix ix_tup (pe_ix ix_list (pv 2) (pv 3) (fun _ _ => rfl)) pe_int (fun _ _ => rfl)) pe_int))
  (pss_cons (ps_set (i := 2) sc_law_laid.nd rfl (Or.inl rfl) (pe_op op_cat (pe_op op_cat (pe_slice sl_list (pv 2) po_none (po_some (pv 6))) (pe_lc (own := [("_law_way", 8), ("_law_label", 9), ("_law_depth_here", 10)]) (g := (gTup K 3 (gCons (gName 8) (gCons (gName 9) (gCons (gName 10) gNil))))) rfl sc_law_laid.nd (pi_list (pe_slice sl_list (pv 4) (po_some pe_int) po_none)) (blkOk_by (by kernel_rfl)) (fun _ _ _ _ _ => (pg_tup rfl (pgs_cons (pg_name (i := 8) sc_law_laid.nd rfl (Or.inl rfl)) (pgs_cons (pg_name (i := 9) sc_law_laid.nd rfl (Or.inl rfl)) (pgs_cons (pg_name (i := 10) sc_law_laid.nd rfl (Or.inl rfl)) pgs_nil))))) (fun _ _ _ _ _ => pts_nil) (fun _ _ _ _ _ => (pe_tup (pa_cons (pv 8) (pa_cons (pv 9) (pa_cons (pe_op op_add (pv 10) (pv 7)) pa_nil))))))) (pe_slice sl_list (pv 2) (po_some (pv 6)) po_none)))
  (pss_one (ps_ret (pe_tup (pa_cons (pv 2) (pa_cons (pe_ix ix_list (pe_lst (pa_cons (pv 3) (pa_cons (pe_op op_sub (pe_op op_add (pv 6) (pv 5)) pe_int) pa_nil))) (pe_callTy call_int1 (by rfl) T.z_int (by decide +kernel) (pa_cons (pe_cmpR op_gt (pv 5) pe_int (nomark _)) pa_nil)) (fun _ _ => rfl)) pa_nil)))))))))), ?_⟩
    have hVm := OV.many
    have hRm := OR.many
    obtain ⟨as, hA1, hA2⟩ := id hV
    obtain ⟨as2, hB1, hB2⟩ := id hRr
    have hwd : w0 < (BM.qds Vs).length := by rw [BM.qds_len]; exact hw
    have hla : as.length = Vs.length := by rw [hA2.len, List.length_map]
    have hlb : as2.length = Rs.length := by rw [hB2.len, List.length_map]
    obtain ⟨r, hr'⟩ : ∃ r, Vs[w0]? = some r := ⟨Vs[w0], List.getElem?_eq_getElem hw⟩
    have hdw : BM.dep (BM.qds Vs) w0 = r.2.2 := BM.qds_dep hr'
    have h1d := OV.good.one_le hwd
    refine ⟨_, rfl, va, _, rfl, hv, rfl, _, _, rfl, _, _, rfl, rfl, ?_⟩
    refine ⟨_, rfl, ra, _, rfl, hr0, rfl, _, _, rfl, _, _, rfl, rfl, ?_⟩
    refine q_asg (ev_op (ev_callV (ea_cons (ev_var rfl) (ea_cons (ev_var rfl) ea_nil)) fun H1 e1 => ⟨rw', Vs, w0, rfl, hV.mono e1, hw, rfl⟩) ev_c rv_I0) fun H1 e1 => ?_
    obtain ⟨rwa, hrwa, hrwS⟩ := hA2.get (i := w0) (r := rowQ r) (by rw [List.getElem?_map, hr']; rfl)
    refine q_asg (ev_op (ev_op (ev_op (ev_var rfl) (ev_var rfl) (rv_ixL (ex_l e1 hA1) (atI_nat (refs_at hrwa)))) ev_c (rv_ixT (i := 2) (ex_t e1 hrwS) rfl)) ev_c rv_I0) fun H2 e2 => ?_
    have e12 := e1.trans e2
    have hmore := en_lcON (K := K) (σ := [some (.ref va), some (.ref ra), some (.ref rw'), some (.int (w0 : Int)), some (.ref mr), some (.int (g0 : Int)), some (.int (((BM.endAt (BM.qds Vs) w0 : Nat) : Int) + 1)), some (.int (((r.2.2 : Nat) : Int) - 1)), none, none, none]) (H := H2) (tl := tSl (rSlL K) (tVar 4) (tPart (tC (.int 1))) tNoPart)
      (g := gTup K 3 (gCons (gName 8) (gCons (gName 9) (gCons (gName 10) gNil)))) (te := tTup (tCons (tVar 8) (tCons (tVar 9) (tCons (tOp (rI0 fun i j => .int (i + j)) (tVar 10) (tVar 7)) tNil)))) (ws := [8, 9, 10])
      (P := fun p H3 => ∃ ms, H3 p = some (.lst (refsV ms)) ∧ ms.length = Rs.length - 1 ∧ Tups K H3 ms (((Rs.drop 1).map (BM.shift (BM.dep (BM.qds Vs) w0 - 1))).map rowQ))
      (el_sl (ev_var rfl) (eo_some ev_c) eo_none (ex_l e12 hB1)) fun pl H3 hpl e3 hl3 => by
        have hcut : cutV (refsV as2) (some 1) none = refsV (as2.drop 1) := by
          rw [refs_drop]
          exact cut_from _ 1
        rw [hcut] at hl3
        have hlen : (as2.drop 1).length = Rs.length - 1 := by rw [List.length_drop, hlb]
        have e03 := e12.trans e3
        refine evN_imp (en_lcO (n := Rs.length - 1) (S := fun i o => ∃ r', Rs[i + 1]? = some r' ∧ o = .tup (rowQ (BM.shift (BM.dep (BM.qds Vs) w0 - 1) r'))) (J := Itl K pl) (G := fun H => SqL K H pl (refsV (as2.drop 1))) (Y := YAt (refsV (as2.drop 1))) (by omega) (fun H1 e R r => r H1 (Ex.refl H1)) (by
            have := walk_list (K := K) (a := pl) (xs := refsV (as2.drop 1))
            rw [List.length_map, hlen] at this
            exact this) (fun H1 e => sq_of (e _ _ hl3)) (fun i y H6 H7 hi e6 hy => by
          obtain ⟨rfl, hy⟩ := hy
          obtain ⟨c, hc, rfl⟩ := refs_back hy
          rw [List.getElem?_drop, Nat.add_comm] at hc
          have hi' : i + 1 < Rs.length := by omega
          have hrow := ex_t (e03.trans e6) (hB2.at_ (i + 1) c _ hc (rowq_at hi'))
          refine ⟨_, Ex.refl _, fun R r => ⟨c, _, rfl, hrow, rfl, _, _, rfl, _, _, rfl, _, _, rfl, rfl, r⟩, rfl, fun H8 e8 Q8 q8 => ?_⟩
          have hsum : ((Rs[i + 1].2.2 : Nat) : Int) + (((r.2.2 : Nat) : Int) - 1) = ((Rs[i + 1].2.2 + (BM.dep (BM.qds Vs) w0 - 1) : Nat) : Int) := by omega
          have hE := eu_tup (σ := [some (.ref va), some (.ref ra), some (.ref rw'), some (.int (w0 : Int)), some (.ref mr), some (.int (g0 : Int)), some (.int (((BM.endAt (BM.qds Vs) w0 : Nat) : Int) + 1)), some (.int (((r.2.2 : Nat) : Int) - 1)), some (.str (wayS Rs[i + 1].1)), some (.str Rs[i + 1].2.1), some (.int ((Rs[i + 1].2.2 : Nat) : Int))]) (H := H8) (ea_cons (ev_var (i := 8) rfl) (ea_cons (ev_var (i := 9) rfl) (ea_cons (ev_op (ev_var (i := 10) rfl) (ev_var (i := 7) rfl) (rv_I0 (g := fun i j => .int (i + j)))) ea_nil))) (by show 3 ≤ 100000; omega)
          rw [hsum] at hE
          exact hE H8 (Ex.refl H8) Q8 fun p H9 hp e9 h9 => q8 p H9 hp e9 ⟨_, h9, Rs[i + 1], List.getElem?_eq_getElem hi', rfl⟩)) fun p H4 _ ⟨ms, hm1, hm2, _⟩ => ⟨ms, hm1, hm2.len, ?_⟩
        refine ⟨by rw [hm2.len, List.length_map, List.length_map, List.length_drop], fun i c q h1 h2 => ?_⟩
        obtain ⟨o, ho, r', hr2, rfl⟩ := hm2.at_ i c h1
        rw [List.getElem?_map, List.getElem?_map, List.getElem?_drop, Nat.add_comm, hr2] at h2
        cases h2
        exact st_of ho
    have hBeh : ∀ {σ : L2.St} {H1 : Hp}, σ[6]? = some (some (.int (((BM.endAt (BM.qds Vs) w0 : Nat) : Int) + 1))) → Ev (tVar 6) σ H1 (.int ((BM.behind Vs w0 : Nat) : Int)) := fun hσ => ev_int (ev_var hσ) rfl
    have h1 := el_sl (K := K) (te := tVar 2) (σ := [some (.ref va), some (.ref ra), some (.ref rw'), some (.int (w0 : Int)), some (.ref mr), some (.int (g0 : Int)), some (.int (((BM.endAt (BM.qds Vs) w0 : Nat) : Int) + 1)), some (.int (((r.2.2 : Nat) : Int) - 1)), none, none, none]) (ev_var rfl) eo_none (eo_some (hBeh rfl)) (ex_l e12 hA1)
    have h2 := el_sl (K := K) (te := tVar 2) (σ := [some (.ref va), some (.ref ra), some (.ref rw'), some (.int (w0 : Int)), some (.ref mr), some (.int (g0 : Int)), some (.int (((BM.endAt (BM.qds Vs) w0 : Nat) : Int) + 1)), some (.int (((r.2.2 : Nat) : Int) - 1)), none, none, none]) (ev_var rfl) (eo_some (hBeh rfl)) eo_none (ex_l e12 hA1)
    rw [cut_to, ← refs_take] at h1
    rw [cut_from, ← refs_drop] at h2
    have hmono : ∀ (ms : List Addr) (H1 H2 : Hp), Ex H1 H2 → Tups K H1 ms (((Rs.drop 1).map (BM.shift (BM.dep (BM.qds Vs) w0 - 1))).map rowQ) → Tups K H2 ms (((Rs.drop 1).map (BM.shift (BM.dep (BM.qds Vs) w0 - 1))).map rowQ) := fun ms H1 H2 e h => h.mono e
    have h4 := en_catB (en_catA h1 hmore hmono (by rw [List.length_map, List.length_take]; omega)) h2 hmono (by rw [List.length_map, List.length_map, List.length_take, List.length_drop]; omega)
    refine q_asgN h4 fun l H4 hl e4 ⟨ms, hm1, hm2⟩ => ?_
    have e14 := e12.trans e4
    have hb := BM.behind_gt Vs w0
    refine s_retN (en_tupV (a := .ref l) (b := .int ((BM.e2 w0 (BM.behind Vs w0) g0 : Nat) : Int)) (ev_var rfl) (ev_ixN (xs := [.int (w0 : Int), .int (((BM.endAt (BM.qds Vs) w0 : Nat) : Int) + 1 + (g0 : Int) - 1)]) (el_lst (ea_cons (ev_var rfl) (ea_cons (ev_op (ev_op (ev_var rfl) (ev_var rfl) rv_I0) ev_c rv_I0) ea_nil)) (by show 2 ≤ 100000; omega)) (ev_int1 (k := decide ((0 : Int) < (g0 : Int))) (ev_op (ev_var rfl) ev_c rv_I0)) ?_)) fun p H5 hp e5 h5 => k p H5 (fresh_back e14 hp) (e14.trans e5) ⟨l, h5, as.take (BM.behind Vs w0) ++ ms ++ as.drop (BM.behind Vs w0), sq_of (by rw [refs_append, refs_append]; exact e5 _ _ hm1), ?_⟩
    · unfold BM.e2
      by_cases h : g0 = 0
      · subst h
        rw [if_pos rfl]
        rfl
      · rw [if_neg h, decide_eq_true (show (0 : Int) < (g0 : Int) by omega)]
        have : (((BM.endAt (BM.qds Vs) w0 : Nat) : Int) + 1 + (g0 : Int) - 1) = ((BM.behind Vs w0 + g0 - 1 : Nat) : Int) := by
          unfold BM.behind
          omega
        rw [this]
        rfl
    · rw [laid_rowQ]
      have t1 := hA2.mono (e14.trans e5)
      exact ((t1.take _).append (hm2.mono e5)).append (t1.drop _)
end
end Bo
set_option Elab.async false
set_option linter.all false
set_option maxRecDepth 100000
set_option maxHeartbeats 4000000
namespace Bo
open PySem PySem.Spec PyProof.Rows L2 Evl BK BL
section
variable {P : Program} {w : World} {K : PySem.W.Frag} {mg : Str → Option Value} {base : Heap} {CD CQ CS CA : Addr}
/-! ### what the law asks, in plain words -/
theorem good_dep {ds : List Nat} (G : BM.Good ds) : ∀ i, i < ds.length → BM.dep ds i ≤ i + 1
  | 0, _ => by
    rw [G.first]
    exact Nat.le_refl 1
  | i + 1, h => by
    have h1 := G.step (i + 1) (by omega) h
    have h2 := good_dep G i (by omega)
    rw [Nat.add_sub_cancel] at h1
    omega
theorem steps_deep {m : Nat} {qs : List QR} (h : StepsOk m qs) : ∀ r ∈ qs, r.2.2 ≤ m := fun r hr => by
  obtain ⟨i, hi⟩ := List.getElem?_of_mem hr
  have hl := (List.getElem?_eq_some_iff.mp hi).1
  have := good_dep h.good i (by rw [BM.qds_len]; exact hl)
  rw [BM.qds_dep hi] at this
  have := h.many
  omega
theorem StepsOk.ok {qs : List QR} (h : StepsOk 6 qs) : OkQ qs := ⟨h.good, Nat.le_trans h.many (by omega), h.lab, fun r hr => Nat.le_trans (steps_deep h r hr) (by omega)⟩
theorem RowsOk.ok {rows : List DR} (h : RowsOk 40 30 rows) : OkD rows := ⟨h.good, Nat.le_trans h.many (by omega), h.lab, fun r hr => Nat.le_trans (h.deep r hr) (by omega)⟩
theorem laid_ok {V R : List QR} {w : Nat} (hV : StepsOk 6 V) (hR : StepsOk 6 R) (hw : w < V.length) : OkQ (BM.laidRows V R w) := by
  have hpos : 0 < R.length := by
    have := hR.good.pos
    rw [BM.qds_len] at this
    exact this
  have hdw : BM.dep (BM.qds V) w ≤ 6 := by
    have := good_dep hV.good w (by rw [BM.qds_len]; exact hw)
    have := hV.many
    omega
  have hmem : ∀ r ∈ BM.laidRows V R w, r ∈ V ∨ ∃ q ∈ R, r = BM.shift (BM.dep (BM.qds V) w - 1) q := fun r hr => by
    unfold BM.laidRows at hr
    rcases List.mem_append.mp hr with h | h
    · rcases List.mem_append.mp h with h | h
      · exact .inl (List.mem_of_mem_take h)
      · obtain ⟨q, hq, rfl⟩ := List.mem_map.mp h
        exact .inr ⟨q, List.mem_of_mem_drop hq, rfl⟩
    · exact .inl (List.mem_of_mem_drop h)
  refine ⟨BM.laid_good hV.good hR.good hw, ?_, fun r hr => ?_, fun r hr => ?_⟩
  · rw [BM.laid_len hw hpos]
    have := hV.many
    have := hR.many
    omega
  · rcases hmem r hr with h | ⟨q, hq, rfl⟩
    · exact hV.lab r h
    · exact hR.lab q hq
  · rcases hmem r hr with h | ⟨q, hq, rfl⟩
    · have := steps_deep hV r h
      omega
    · have := steps_deep hR q hq
      show q.2.2 + (BM.dep (BM.qds V) w - 1) ≤ 30
      omega
/-- the rest's first step made the view's label -/
def headed (R : List QR) (z : Str) : List QR := match R with | [] => [] | r :: rs => (r.1, z, 1) :: rs
theorem headed_len (R : List QR) (z : Str) : (headed R z).length = R.length := by cases R <;> rfl
theorem headed_ok {R : List QR} {z : Str} (h : StepsOk 6 R) (hz : isLab z) : StepsOk 6 (headed R z) := by
  cases R with
  | nil => exact h
  | cons r rs =>
    have h1 : BM.qds (headed (r :: rs) z) = BM.qds (r :: rs) := by
      have := h.good.first
      have h2 : r.2.2 = 1 := this
      show 1 :: _ = r.2.2 :: _
      rw [h2]
    refine ⟨by rw [h1]; exact h.good, by rw [headed_len]; exact h.many, fun q hq => ?_⟩
    rcases List.mem_cons.mp hq with e | e
    · rw [e]
      exact hz
    · exact h.lab q (List.mem_cons_of_mem _ e)
theorem root_laid {V R : List QR} {w : Nat} (hw : w < V.length) (A : BM.Laid (BM.queT V) (BM.queT R) (BM.queT (BM.laidRows V R w)) w (BM.behind V w)) : root0 (BM.laidRows V R w) = root0 V := by
  have h0 := A.way1 0 (by show 0 < V.length; omega)
  have h1 : BM.e1 (BM.behind V w) ((BM.queT R).n - 1) 0 = 0 := by
    unfold BM.e1
    rw [if_pos (Nat.lt_of_le_of_lt (Nat.zero_le w) (BM.behind_gt V w))]
  rw [h1] at h0
  funext p
  unfold root0
  rw [h0]
/-- what goes through the kept parts is what both laid together answer -/
theorem due_eq {rows : List DR} {V R : List QR} {w g : Nat} {kp : List Nat} (GV : BM.Good (BM.qds V)) (GR : BM.Good (BM.qds R)) (hw : w < V.length) (hg : g < R.length) (hlab : (BM.queT R).lab 0 = (BM.queT V).lab w) (hkp : ∀ x, x ∈ kp ↔ x ∈ Fb rows V (root0 V) w) :
    BM.tbl rows.length (fun z => ∃ x ∈ kp, BM.Full (BM.docT rows) (BM.queT R) (fun y => y = x) g z) = Fb rows (BM.laidRows V R w) (root0 (BM.laidRows V R w)) (BM.e2 w (BM.behind V w) g) := by
  have A := BM.laid_laid GV GR hw hlab
  rw [root_laid hw A]
  unfold Fb
  refine BM.tbl_ext fun z hz => ?_
  rw [A.full (BM.queT_ok GV) (BM.queT_ok GR) (root := root0 V) (g := g) hg]
  constructor
  · rintro ⟨x, hx, h⟩
    exact ⟨x, (BM.mem_tbl.mp ((hkp x).mp hx)).2, h⟩
  · rintro ⟨x, h1, h2⟩
    exact ⟨x, (hkp x).mpr (BM.mem_tbl.mpr ⟨h1.lt, h1⟩), h2⟩
/-! ### what stays while the source is written -/
theorem RowsAt.exs {H H' : Hp} {D a : Addr} {rs : List (List V)} (s : Src H D) (e : ExB D H H') (h : RowsAt K H a rs) : RowsAt K H' a rs := let ⟨as, h1, h2⟩ := h; ⟨as, exs_l s e h1, h2.len, fun i c r p q => exs_t s e (h2.at_ i c r p q)⟩
theorem QueOb.exs {H H' : Hp} {D a : Addr} {rows : List QR} {w : Nat} (s : Src H D) (e : ExB D H H') (h : QueOb K CQ CS CA H a rows w) : QueOb K CQ CS CA H' a rows w := by
  obtain ⟨dx, g, st, en, u, as, ss, d⟩ := h
  exact ⟨dx, g, st, en, u, as, ss, exs_o s e (fun k q => by cases q) d.ob, exs_t s e d.given, ⟨d.tups.len, fun i c r p q => exs_t s e (d.tups.at_ i c r p q)⟩, exs_t s e d.steps, ⟨d.stps.len, fun i c r p q => by
    obtain ⟨dx', h⟩ := d.stps.at_ i c r p q
    exact ⟨dx', exs_o s e (fun k q => by cases q) h⟩⟩, exs_l s e d.ends, exs_l s e d.ups⟩
theorem set_t {H : Hp} {m a : Addr} {xs ys zs : List V} (hm : H m = some (.lst ys)) (h : SqT K H a xs) : SqT K (upd H m (.lst zs)) a xs := h.imp (fun h => by
  have hna : a ≠ m := fun z => by
    rw [z] at h
    rcases h with h | ⟨o, h⟩ <;> rw [hm] at h <;> cases h
  rcases h with h | ⟨o, h⟩
  · exact .inl (by rw [upd_ne hna]; exact h)
  · exact .inr ⟨o, by rw [upd_ne hna]; exact h⟩) id
section
variable {σ : L2.St} {D : Addr} {H : Hp} {te ta tb : TE} {g : TG} {N : Ends} {tz : TS}
theorem q_asgG (h : te σ H fun v H1 => g v σ H1 (tz N)) : tSeq (tAsg te g) tz N σ H := h
theorem q_setN {P : Addr → Hp → Prop} {l : Addr} {xs : List V} {j : Nat} (hl : H l = some (.lst xs)) (h : EvN te σ H P) (ho : Ev ta σ H (.ref l)) (hi : Ev tb σ H (.int (j : Int))) (hj : j < xs.length) (k : ∀ p H1, H p = none → Ex H H1 → (∃ H0, P p H0 ∧ Ex H0 H1) → tz N σ (upd H1 l (.lst (xs.set j (.ref p))))) :
    tSeq (tAsg te (gSub ta tb rSetL)) tz N σ H := s_setN (D := { N with nx := tz N }) hl h ho hi hj k
theorem EvN.toP {P : Addr → Hp → Prop} (h : EvN te σ H P) : EvP te σ H (fun v H2 => ∃ p, v = .ref p ∧ P p H2) := fun H1 e Q q => h H1 e Q fun p H2 _ e2 hP => q _ H2 e2 ⟨p, rfl, hP⟩
theorem et_neSame {q : Addr} {ns : List Nat} (ha : EvP ta σ H (fun v H2 => ∃ p, v = .ref p ∧ H2 p = some (.lst (natV ns)))) (hb : Ev tb σ H (.ref q)) (hq : H q = some (.lst (natV ns))) : EvT (tTest (tOp (rNeD K) ta tb)) σ H false := et_test (ev_opP ha hb fun x H1 H2 ⟨p, hx, hp⟩ e e2 => by
  subst hx
  intro H3 e3 Q k
  refine ⟨dInts ns, dInts ns, dp_of (sq_of (e3 _ _ (e2 _ _ hp))), dp_of (sq_of (e3 _ _ (e2 _ _ (e _ _ hq)))), shaped_ints ns, shaped_ints ns, ?_⟩
  have : PyData.eqv (dInts ns) (dInts ns) = true := eqv_ints ns
  rw [this]
  exact k H3 (Ex.refl H3))
theorem el_listRev {a : Addr} {xs : List V} (h : Ev ta σ H (.ref a)) (hx : SqL K H a xs) : EvL (tListRev K ta) σ H xs.reverse := fun H1 e Q q => h H1 e _ fun H2 e2 => ⟨a, xs, rfl, ex_l (e.trans e2) hx, fun p hp => q p _ (fresh_back e2 hp) (e2.trans (Ex.new hp)) upd_same⟩
theorem en_call3L {R : List V → Hp → (Addr → Hp → Prop) → Prop} {P : Addr → Hp → Prop} {E : XK} {a c : V} {xs : List V} (h1 : Ev ta σ H a) (h2 : EvL tb σ H xs) (h3 : Ev te σ H c) (hR : ∀ p H1, Ex H H1 → H1 p = some (.lst xs) → R [a, .ref p, c] H1 P) : EvN (tCall (spN R) [] E (tCons ta (tCons tb (tCons te tNil)))) σ H P := fun H1 e Q q =>
  h1 H1 e _ fun H2 e2 => h2 H2 (e.trans e2) _ fun p H3 hp e3 hx => h3 H3 ((e.trans e2).trans e3) _ fun H4 e4 => ⟨P, hR p H4 (((e.trans e2).trans e3).trans e4) (e4 _ _ hx), fun r H5 hr e5 hP => q r H5 (fresh_back ((e2.trans e3).trans e4) hr) (((e2.trans e3).trans e4).trans e5) hP⟩
theorem en_call2U {R : List V → Hp → (Addr → Hp → Prop) → Prop} {P : Addr → Hp → Prop} {E : XK} {xs ys : List V} (h1 : EvU ta σ H xs) (h2 : EvU tb σ H ys) (hR : ∀ p q H1, Ex H H1 → H1 p = some (.tup xs) → H1 q = some (.tup ys) → R [.ref p, .ref q] H1 P) : EvN (tCall (spN R) [] E (tCons ta (tCons tb tNil))) σ H P := fun H1 e Q q =>
  h1 H1 e _ fun a H2 ha e2 hx => h2 H2 (e.trans e2) _ fun b H3 hb e3 hy => ⟨P, hR a b H3 ((e.trans e2).trans e3) (e3 _ _ hx) hy, fun r H5 hr e5 hP => q r H5 (fresh_back (e2.trans e3) hr) ((e2.trans e3).trans e5) hP⟩
theorem en_call2N {R : List V → Hp → (Addr → Hp → Prop) → Prop} {P P0 : Addr → Hp → Prop} {E : XK} {c : V} (h1 : EvN ta σ H P0) (h2 : Ev tb σ H c) (hm : ∀ p H1 H2, Ex H1 H2 → P0 p H1 → P0 p H2) (hR : ∀ p H1, Ex H H1 → P0 p H1 → R [.ref p, c] H1 P) : EvN (tCall (spN R) [] E (tCons ta (tCons tb tNil))) σ H P := fun H1 e Q q =>
  h1 H1 e _ fun a H2 ha e2 hx => h2 H2 (e.trans e2) _ fun H3 e3 => ⟨P, hR a H3 ((e.trans e2).trans e3) (hm _ _ _ e3 hx), fun r H5 hr e5 hP => q r H5 (fresh_back (e2.trans e3) hr) ((e2.trans e3).trans e5) hP⟩
theorem en_doc {tg : TA} {c : Addr} {rows : List DR} (h : EvA tg σ H [.ref c]) (hR : RowsAt K H c (rows.map rowD)) (O : OkD rows) : EvN (tMake CD (spDocInit K CD) [] E0 tg) σ H (fun p H2 => DocOb K CD H2 p rows) :=
  en_make h fun H1 x dx e hx hdx hne Q' k => ⟨x, dx, c, rows, rfl, upd_same, (hR.mono ((e.trans (Ex.new hdx)).trans (Ex.new (by rw [upd_ne (fun z => hne z.symm)]; exact hx)))), O, fun H2 b hq => k H2 b hq⟩
end
end
end Bo
set_option Elab.async false
set_option linter.all false
set_option maxRecDepth 100000
set_option maxHeartbeats 4000000
namespace Bo
open PySem PySem.Spec PyProof.Rows L2 Evl BK BL
section
variable {P : Program} {w : World} {K : PySem.W.Frag} {mg : Str → Option Value} {base : Heap} {CD CQ CS CA : Addr}
theorem sc_law : FnScope ["_law_script", "_law_k", "_law_source_here", "_law_labels_here", "_law_rows_here", "_law_wanted", "_law_more", "_law_goal", "_law_whole", "_law_rest_here", "_law_laid_here", "_law_turn", "_law_document", "_law_tree", "_law_kept", "_law_due"] ["_law_script"] (defScope s_law) := ⟨rfl, rfl, rfl, by decide +kernel, rfl, by decide +kernel, by decide +kernel⟩
theorem ok_law (T : Txt K mg CD CQ CS CA) {f : Addr} {fd : FuncData} (F : Fun K "law" "law" s_law f fd) : FnOk P w K mg base CX0 10 f fd ["_law_script"] (spLaw K) := by
  refine F.ok sc_law (fun vs H Q E h => ?_) (fun cdv A outer s H vs Q E hr h => ?_)
  · obtain ⟨a, ns, rfl, _⟩ := h
    rfl
  · obtain ⟨a, ns, rfl, hns, hlen, k⟩ := h
    refine ⟨_, (pss_cons (ps_for PassesOwn.never rfl (pi_range1 rfl T.z_range (pa_cons (pe_callB (call_max2 rfl) (by rfl) T.z_max (by decide +kernel) (pa_cons pe_int (pa_cons (pe_callB (call_min2 rfl) (by rfl) T.z_min (by decide +kernel) (pa_cons (pe_callB call_len_seq (by rfl) T.z_len (by decide +kernel) (pa_cons (pv 0) pa_nil)) (pa_cons pe_int pa_nil))) pa_nil))) pa_nil)) (pg_name (i := 1) sc_law.nd rfl (Or.inl rfl)) (pss_cons (ps_set (i := 2) sc_law.nd rfl (Or.inl rfl) (Fn.pe (by exact fn__law_source T) (hr.mono (by decide)) (by rfl) (pa_cons (Fn.pe (by exact fn__law_cell_at T) (hr.mono (by decide)) (by rfl) (pa_cons (pv 0) (pa_cons (pv 1) pa_nil))) pa_nil)))
  (pss_cons (ps_set (i := 3) sc_law.nd rfl (Or.inl rfl) (Fn.pe (by exact fn__law_labels T) (hr.mono (by decide)) (by rfl) (pa_cons (pv 2) (pa_cons (pe_ix ix_list (pe_lst (pa_cons pe_int (pa_cons pe_int (pa_cons pe_int pa_nil)))) (Fn.pe (by exact fn__law_take T) (hr.mono (by decide)) (by rfl) (pa_cons (pv 2) (pa_cons pe_int pa_nil))) (fun _ _ => rfl)) pa_nil))))
  (pss_cons (ps_asg (Fn.pe (by exact fn__law_question T) (hr.mono (by decide)) (by rfl) (pa_cons (pv 2) (pa_cons (pv 3) (pa_cons pe_int pa_nil)))) (pg_tup rfl (pgs_cons (pg_name (i := 4) sc_law.nd rfl (Or.inl rfl)) (pgs_cons (pg_name (i := 5) sc_law.nd rfl (Or.inl rfl)) pgs_nil))))
  (pss_cons (ps_asg (Fn.pe (by exact fn__law_question T) (hr.mono (by decide)) (by rfl) (pa_cons (pv 2) (pa_cons (pv 3) (pa_cons pe_int pa_nil)))) (pg_tup rfl (pgs_cons (pg_name (i := 6) sc_law.nd rfl (Or.inl rfl)) (pgs_cons (pg_name (i := 7) sc_law.nd rfl (Or.inl rfl)) pgs_nil))))
  (pss_cons (ps_asg (pe_tup (pa_cons (pe_ix ix_tup (pe_ix ix_list (pv 6) pe_int (fun _ _ => rfl)) pe_int (fun _ _ => rfl)) (pa_cons (pe_ix ix_tup (pe_ix ix_list (pv 4) (pv 5) (fun _ _ => rfl)) pe_int (fun _ _ => rfl)) (pa_cons pe_int pa_nil)))) (pg_sub (pv 6) pe_int set_list))
  (pss_cons (ps_set (i := 8) sc_law.nd rfl (Or.inl rfl) (Fn.pe (by exact fn__law_laid T) (hr.mono (by decide)) (by rfl) (pa_cons (pe_tup (pa_cons (pv 4) (pa_cons (pv 5) pa_nil))) (pa_cons (pe_tup (pa_cons (pv 6) (pa_cons (pv 7) pa_nil))) pa_nil))))
  (pss_cons (ps_set (i := 9) sc_law.nd rfl (Or.inl rfl) (Ctor.pe (by exact c_Question T) (hr.mono (by decide)) (by rfl) (pa_cons (pv 6) (pa_cons (pv 7) pa_nil))))
  (pss_cons (ps_set (i := 10) sc_law.nd rfl (Or.inl rfl) (Fn.pe (by exact fn_together T) (hr.mono (by decide)) (by rfl) (pa_cons (Ctor.pe (by exact c_Question T) (hr.mono (by decide)) (by rfl) (pa_cons (pv 4) (pa_cons (pv 5) pa_nil))) (pa_cons (pv 9) pa_nil))))
  (pss_one (ps_for PassesOwn.never rfl (pi_range1 rfl T.z_range (pa_cons (pe_op op_add pe_int (Fn.pe (by exact fn__law_take T) (hr.mono (by decide)) (by rfl) (pa_cons (pv 2) (pa_cons pe_int pa_nil)))) pa_nil)) (pg_name (i := 11) sc_law.nd rfl (Or.inl rfl)) (pss_cons (ps_set (i := 12) sc_law.nd rfl (Or.inl rfl) (Fn.pe (by exact fn__law_rows T) (hr.mono (by decide)) (by rfl) (pa_cons (pv 2) (pa_cons (pv 3) (pa_cons pe_int (pa_cons pe_int pa_nil))))))
  (pss_cons (ps_set (i := 13) sc_law.nd rfl (Or.inl rfl) (Ctor.pe (by exact c_Document T) (hr.mono (by decide)) (by rfl) (pa_cons (pv 12) pa_nil)))
  (pss_cons (ps_set (i := 14) sc_law.nd rfl (Or.inl rfl) (Fn.pe (by exact fn__law_answer T) (hr.mono (by decide)) (by rfl) (pa_cons (pv 12) (pa_cons (pv 4) (pa_cons (pv 5) pa_nil)))))
  (pss_cons (ps_set (i := 15) sc_law.nd rfl (Or.inl rfl) (Fn.pe (by exact fn__law_answer T) (hr.mono (by decide)) (by rfl) (pa_cons (pv 12) (pa_cons (pe_ix ix_tup (pv 8) pe_int (fun _ _ => rfl)) (pa_cons (pe_ix ix_tup (pv 8) pe_int (fun _ _ => rfl)) pa_nil)))))
  (pss_cons (ps_if (PW.pt (pw_or (pt_cmpR (op_neD hr.units) (Fn.pe (by exact fn_through T) (hr.mono (by decide)) (by rfl) (pa_cons (pv 13) (pa_cons (pv 14) (pa_cons (pv 9) pa_nil)))) (pv 15) (nomark _)) (pw_or1 (pt_cmpR (op_neD hr.units) (Fn.pe (by exact fn_run_slow T) (hr.mono (by decide)) (by rfl) (pa_cons (pv 13) (pa_cons (pv 10) pa_nil))) (pv 15) (nomark _))))) (pss_one (ps_ret pe_bl)) pss_nil)
  (pss_one (ps_if (pt_cmpR (op_neD hr.units) (Fn.pe (by exact fn_through T) (hr.mono (by decide)) (by rfl) (pa_cons (pv 13) (pa_cons (pe_op op_cat (pe_listRev rfl (by rfl) T.z_list (by rfl) T.z_reversed (pv 14)) (pe_slice sl_list (pv 14) po_none (po_some pe_int))) (pa_cons (pv 9) pa_nil)))) (pv 15) (nomark _)) (pss_one (ps_ret pe_bl)) pss_nil))))))))))))))))))
  (pss_one (ps_ret pe_bl))), ?_⟩
    refine q_forI (ei_range1 (ev_max2 ev_c (ev_min2 (ev_len (ev_var rfl) hns) ev_c)) (by rw [List.length_map]; split <;> split <;> omega) (by rw [List.length_map]; split <;> split <;> omega)) walk_range (fun i σ' H' => ∃ (v1 v2 v3 v4 v5 v6 v7 v8 v9 v10 v11 v12 v13 v14 v15 : Option V), σ' = [some (.ref a), v1, v2, v3, v4, v5, v6, v7, v8, v9, v10, v11, v12, v13, v14, v15] ∧ Ex H H')
      (fun H1 e1 => ⟨_, _, _, _, _, _, _, _, _, _, _, _, _, _, _, rfl, e1⟩) (fun _ _ _ _ _ => trivial) ?_ ?_
    · rintro i y σ' H' Hb hi ⟨v1, v2, v3, v4, v5, v6, v7, v8, v9, v10, v11, v12, v13, v14, v15, rfl, e⟩ ⟨rfl, hy⟩
      have hy : y = .int (i : Int) := by
        rw [hy]
        exact congrArg V.int (by omega)
      subst hy
      obtain ⟨c, hc⟩ : ∃ c : Int, ((ns.map V.int)[i]?).getD (.int (7919 * (i : Int) + 13)) = .int c := by
        rw [List.getElem?_map]
        cases ns[i]? with
        | none => exact ⟨_, rfl⟩
        | some j => exact ⟨j, rfl⟩
      refine q_asgN (en_call (P := fun D H2 => Src H2 D) (ea_cons (ev_callV (z := .int c) (ea_cons (ev_var rfl) (ea_cons (ev_var rfl) ea_nil)) fun H2 e2 => ⟨a, ns.map V.int, i, rfl, ex_l (e.trans e2) hns, hc.symm⟩) ea_nil) fun H2 e2 => ⟨c, rfl, rfl⟩) fun D H1 hD e1 s1 => ?_
      have hD0 : H D = none := fresh_back e hD
      refine q_asgX ⟨_, rfl, es_ixC (xs := [.int 1, .int 2, .int 2]) (P := fun v => ∃ m : Nat, 1 ≤ m ∧ m ≤ 2 ∧ v = .int (m : Int)) (fun H2 => el_lst (ea_cons ev_c (ea_cons ev_c (ea_cons ev_c ea_nil))) (by show 3 ≤ 100000; omega)) (es_takeC (m := 3) rfl (by omega) (by omega)) (fun y ⟨r, hr, hy⟩ => ?_) H1 ExB.refl s1 _ fun v H2 e2 s2 ⟨m, m1, m2, hv⟩ => ?_⟩
      · have : r = 0 ∨ r = 1 ∨ r = 2 := by omega
        rcases this with h | h | h <;> subst h
        · exact ⟨_, _, hy, rfl, 1, by omega, by omega, rfl⟩
        · exact ⟨_, _, hy, rfl, 2, by omega, by omega, rfl⟩
        · exact ⟨_, _, hy, rfl, 2, by omega, by omega, rfl⟩
      subst hv
      refine ⟨D, _, ⟨m, rfl, by omega, rfl⟩, s2, fun v H3 e3 s3 ⟨lp, zs, hv, hlp0, hlp, hzl, hzL⟩ => ?_⟩
      subst hv
      refine q_asgG (es_callP (P := fun v H2 => ∃ (t p : Addr) (as : List Addr) (rows : List QR) (w : Nat), v = .ref t ∧ H2 t = some (.tup [.ref p, .int ((w : Nat) : Int)]) ∧ H2 p = some (.lst (refsV as)) ∧ Tups K H2 as (rows.map rowQ) ∧ StepsOk 6 rows ∧ w < rows.length) (ea_cons (ev_var rfl) (ea_cons (ev_var rfl) (ea_cons ev_c ea_nil))) s3 (fun H4 e4 => ⟨_, ⟨lp, 6, zs, rfl, sq_of (e4 _ _ hlp), by omega, by omega, hzL, by omega, by omega, rfl⟩, fun v H5 ⟨t, p, as, rows, w, h1, h2, h3, h4, h5, h6, h7⟩ => ⟨t, p, as, rows, w, h1, h2, h4, h5, h6, h7⟩⟩) _ fun v H4 e4 s4 ⟨t4, rp, as, Vs, w0, hv, ht4, hrp, hVT, hV, hw⟩ => ?_)
      subst hv
      refine ⟨t4, _, rfl, st_of ht4, rfl, _, _, rfl, _, _, rfl, rfl, ?_⟩
      have hlp4 : SqL K H4 lp (strsV zs) := exs_l s3 e4 (sq_of hlp)
      refine q_asgG (es_callP (P := fun v H2 => ∃ (t p : Addr) (as : List Addr) (rows : List QR) (w : Nat), v = .ref t ∧ H2 t = some (.tup [.ref p, .int ((w : Nat) : Int)]) ∧ H4 p = none ∧ H2 p = some (.lst (refsV as)) ∧ Tups K H2 as (rows.map rowQ) ∧ StepsOk 6 rows ∧ w < rows.length) (ea_cons (ev_var rfl) (ea_cons (ev_var rfl) (ea_cons ev_c ea_nil))) s4 (fun H5 e5 => ⟨_, ⟨lp, 6, zs, rfl, ex_l e5 hlp4, by omega, by omega, hzL, by omega, by omega, rfl⟩, fun v H5 ⟨t, p, as, rows, w, h1, h2, h3, h4, h5, h6, h7⟩ => ⟨t, p, as, rows, w, h1, h2, fresh_back e5 h3, h4, h5, h6, h7⟩⟩) _ fun v H5 e5 s5 ⟨t5, mp, as2, Rs, g0, hv, ht5, hmp0, hmp, hRT, hR, hg⟩ => ?_)
      subst hv
      refine ⟨t5, _, rfl, st_of ht5, rfl, _, _, rfl, _, _, rfl, rfl, ?_⟩
      have hlp5 : SqL K H5 lp (strsV zs) := exs_l s4 e5 hlp4
      have hrp5 : SqL K H5 rp (refsV as) := exs_l s4 e5 (sq_of hrp)
      have hVT5 : Tups K H5 as (Vs.map rowQ) := ⟨hVT.len, fun i c r p q => exs_t s4 e5 (hVT.at_ i c r p q)⟩
      have hmD : mp ≠ D := s5.ne hmp fun k q => by cases q
      have hal : as.length = Vs.length := by rw [hVT.len, List.length_map]
      have hal2 : as2.length = Rs.length := by rw [hRT.len, List.length_map]
      have hRpos : 0 < Rs.length := by omega
      obtain ⟨rv, hrv⟩ : ∃ r, Vs[w0]? = some r := ⟨_, List.getElem?_eq_getElem hw⟩
      obtain ⟨r0, Rt, hRs⟩ : ∃ r Rt, Rs = r :: Rt := by
        cases Rs with
        | nil => simp at hRpos
        | cons r Rt => exact ⟨r, Rt, rfl⟩
      subst hRs
      obtain ⟨ra0, hra0, hra0S⟩ := hRT.get (i := 0) (r := rowQ r0) rfl
      obtain ⟨rvw, hrvw, hrvwS⟩ := hVT5.get (i := w0) (r := rowQ rv) (by rw [List.getElem?_map, hrv]; rfl)
      refine q_setN (P := fun p H2 => H2 p = some (.tup [.str (wayS r0.1), .str rv.2.1, .int 1])) (j := 0) hmp (eu_tup (ea_cons (ev_op (ev_op (ev_var rfl) ev_c (rv_ixL (sq_of hmp) (atI_nat (j := 0) (refs_at hra0)))) ev_c (rv_ixT (i := 0) hra0S rfl)) (ea_cons (ev_op (ev_op (ev_var rfl) (ev_var rfl) (rv_ixL hrp5 (atI_nat (refs_at hrvw)))) ev_c (rv_ixT (i := 1) hrvwS rfl)) (ea_cons ev_c ea_nil))) (by show 3 ≤ 100000; omega)) (ev_var rfl) ev_c (by rw [List.length_map, hal2]; exact hRpos) fun t3 H6 ht3 e6 ⟨H60, hP, e60⟩ => ?_
      have ht36 := e60 _ _ hP
      have hmp6 := e6 _ _ hmp
      obtain ⟨H7, hH7⟩ : ∃ H7, H7 = upd H6 mp (.lst ((refsV as2).set 0 (.ref t3))) := ⟨_, rfl⟩
      have hRo : StepsOk 6 (headed (r0 :: Rt) rv.2.1) := headed_ok hR (hV.lab rv (List.mem_of_getElem? hrv))
      have hgo : g0 < (headed (r0 :: Rt) rv.2.1).length := by rw [headed_len]; exact hg
      have b16 : ExB D H1 H6 := e2.trans (e3.trans (e4.trans (e5.trans (ExB.of e6))))
      have b14 : ExB D H1 H4 := e2.trans (e3.trans e4)
      have hmp1 : H1 mp = none := fresh_backS s1 s4 b14 hmp0
      have e07 : Ex H H7 := fun x o hx => by
        have hxD : x ≠ D := fun z => by
          rw [z, hD0] at hx
          cases hx
        have h1 := e1 _ _ (e _ _ hx)
        rw [hH7, upd_ne (fun z => by rw [z, hmp1] at h1; cases h1)]
        exact b16 x o hxD h1
      have s7 : Src H7 D := by
        obtain ⟨n1, n2, n3, hn⟩ := s5
        exact ⟨n1, n2, n3, by rw [hH7, upd_ne (fun z => hmD z.symm)]; exact e6 _ _ hn⟩
      have hset : ∀ {x xs}, SqL K H4 x xs → SqL K H6 x xs → SqL K H7 x xs := fun {x xs} h4 h6 => by
        rcases h6 with h6 | h6
        · rcases h4 with h4 | h4
          · have hne : x ≠ mp := fun z => by
              rw [z] at h4
              rcases h4 with h4 | ⟨o, h4⟩ <;> rw [hmp0] at h4 <;> cases h4
            rw [hH7]
            rcases h6 with h6 | ⟨o, h6⟩
            · exact .inl (.inl (by rw [upd_ne hne]; exact h6))
            · exact .inl (.inr ⟨o, by rw [upd_ne hne]; exact h6⟩)
          · exact .inr h4
        · exact .inr h6
      have hlp7 : SqL K H7 lp (strsV zs) := hset hlp4 (ex_l e6 hlp5)
      have hrp7 : SqL K H7 rp (refsV as) := hset (sq_of hrp) (ex_l e6 hrp5)
      have hst : ∀ {x xs}, SqT K H6 x xs → SqT K H7 x xs := fun h => by
        rw [hH7]
        exact set_t hmp6 h
      have hV7 : RowsAt K H7 rp (Vs.map rowQ) := ⟨as, hrp7, hVT5.len, fun i c r p q => hst (ex_t e6 (hVT5.at_ i c r p q))⟩
      have hR7 : RowsAt K H7 mp ((headed (r0 :: Rt) rv.2.1).map rowQ) := by
        refine ⟨as2.set 0 t3, sq_of (by rw [hH7, upd_same]; show _ = some (HO.lst ((as2.set 0 t3).map V.ref)); rw [List.map_set]), by rw [List.length_set, hal2, List.length_map, headed_len], fun i c r p q => ?_⟩
        cases i with
        | zero =>
          rw [List.getElem?_set_self (by rw [hal2]; exact hRpos)] at p
          cases p
          cases q
          exact hst (st_of ht36)
        | succ i =>
          rw [List.getElem?_set_ne (by omega)] at p
          exact hst (ex_t e6 (hRT.at_ (i + 1) c r p q))
      rw [← hH7]
      clear hset hst ht36 hmp6 hP e60 ht3 hlp5 hrp5 hVT5 hrvwS hra0S
      refine q_asgN (P := fun p H2 => ∃ l, H2 p = some (.tup [.ref l, .int ((BM.e2 w0 (BM.behind Vs w0) g0 : Nat) : Int)]) ∧ RowsAt K H2 l ((BM.laidRows Vs (headed (r0 :: Rt) rv.2.1) w0).map rowQ)) (en_call2U (xs := [.ref rp, .int (w0 : Int)]) (ys := [.ref mp, .int (g0 : Int)]) (eu_tup (ea_cons (ev_var rfl) (ea_cons (ev_var rfl) ea_nil)) (by show 2 ≤ 100000; omega)) (eu_tup (ea_cons (ev_var rfl) (ea_cons (ev_var rfl) ea_nil)) (by show 2 ≤ 100000; omega)) fun t1 t2 H8 e8 ht1 ht2 => ⟨t1, t2, rp, mp, w0, g0, Vs, headed (r0 :: Rt) rv.2.1, rfl, st_of ht1, st_of ht2, hV7.mono e8, hV.ok, hw, hR7.mono e8, hRo.ok, rfl⟩) fun wp H10 hwp e710 ⟨ll, hl1, hl2⟩ => ?_
      refine q_asgN (en_que (rows := headed (r0 :: Rt) rv.2.1) (w := g0) (ea_cons (ev_var rfl) (ea_cons (ev_var rfl) ea_nil)) (hR7.mono e710) hRo.ok hgo) fun qr H11 h11 e11 hqr => ?_
      have hOL := laid_ok hV hRo hw
      refine q_asgN (P := fun p H2 => QueOb K CQ CS CA H2 p (BM.laidRows Vs (headed (r0 :: Rt) rv.2.1) w0) (BM.e2 w0 (BM.behind Vs w0) g0)) (en_call2N (P0 := fun p H2 => QueOb K CQ CS CA H2 p Vs w0) (en_que (rows := Vs) (w := w0) (ea_cons (ev_var rfl) (ea_cons (ev_var rfl) ea_nil)) (hV7.mono (e710.trans e11)) hV.ok hw) (ev_var rfl) (fun p H1 H2 e h => h.mono e) fun qv H12 e12 hqv => ⟨qv, qr, w0, g0, Vs, headed (r0 :: Rt) rv.2.1, rv, (r0.1, rv.2.1, 1), rfl, hqv, hV.ok, hw, hqr.mono e12, hRo.ok, hgo, hOL, hrv, rfl, rfl, rfl⟩) fun ql H13 h13 e13 hql => ?_
      have e713 : Ex H7 H13 := (e710.trans e11).trans e13
      have s13 := s7.mono e713
      refine es_op (P := fun v => v = .int 1) (R := isLt 3) (S := fun v => ∃ n : Nat, n ≤ 3 ∧ v = .int (n : Int)) (es_c rfl) (es_takeC (m := 3) rfl (by omega) (by omega)) (fun x y hx ⟨r, hr, hy⟩ => ?_) H13 ExB.refl s13 _ fun v H14 e14 s14 ⟨n, hn, hv⟩ => ?_
      · subst hx
        subst hy
        refine ⟨_, ⟨1 + r, by omega, rfl⟩, fun H2 => ?_⟩
        have := rv_I0 (H := H2) (g := fun i j => .int (i + j)) (i := 1) (j := (r : Int))
        rw [show ((1 : Int) + (r : Int)) = ((1 + r : Nat) : Int) by omega] at this
        exact this
      subst hv
      refine ⟨(n : Int), rfl, by omega, by omega, ?_⟩
      have hlp14 : SqL K H14 lp (strsV zs) := exs_l s13 e14 (ex_l e713 hlp7)
      have hV14 : RowsAt K H14 rp (Vs.map rowQ) := RowsAt.exs s13 e14 (hV7.mono e713)
      have hL14 : RowsAt K H14 ll ((BM.laidRows Vs (headed (r0 :: Rt) rv.2.1) w0).map rowQ) := RowsAt.exs s13 e14 (hl2.mono (e11.trans e13))
      have hwp14 : SqT K H14 wp [.ref ll, .int ((BM.e2 w0 (BM.behind Vs w0) g0 : Nat) : Int)] := exs_t s13 e14 (st_of ((e11.trans e13) _ _ hl1))
      have hqr14 : QueOb K CQ CS CA H14 qr (headed (r0 :: Rt) rv.2.1) g0 := QueOb.exs s13 e14 (hqr.mono e13)
      have hql14 : QueOb K CQ CS CA H14 ql (BM.laidRows Vs (headed (r0 :: Rt) rv.2.1) w0) (BM.e2 w0 (BM.behind Vs w0) g0) := QueOb.exs s13 e14 hql
      have hLg : BM.e2 w0 (BM.behind Vs w0) g0 < (BM.laidRows Vs (headed (r0 :: Rt) rv.2.1) w0).length := by
        rw [BM.laid_len hw (by rw [headed_len]; exact hRpos)]
        have := BM.behind_le hw
        unfold BM.e2
        split <;> omega
      have hlab0 : (BM.queT (headed (r0 :: Rt) rv.2.1)).lab 0 = (BM.queT Vs).lab w0 := by
        rw [que_lab hrv]
        rfl
      have e014 : Ex H H14 := fun x o hx => e14 x o (fun z => by rw [z, hD0] at hx; cases hx) (e713 _ _ (e07 _ _ hx))
      refine for_it (walk_range (lo := 0) (n := (n : Int).toNat)) (fun i' σ' H' => ∃ (v11 v12 v13 v14 v15 : Option V), σ' = [some (.ref a), some (.int (i : Int)), some (.ref D), some (.ref lp), some (.ref rp), some (.int (w0 : Int)), some (.ref mp), some (.int (g0 : Int)), some (.ref wp), some (.ref qr), some (.ref ql), v11, v12, v13, v14, v15] ∧ ExB D H14 H' ∧ Src H' D) ⟨_, _, _, _, _, rfl, ExB.refl, s14⟩ (fun _ _ _ _ _ => trivial) ?_ ?_
      · rintro i' y σ' H15 H16 hi' ⟨v11, v12, v13, v14, v15, rfl, b15, s15⟩ ⟨rfl, hy⟩
        refine q_asgX (es_callP (P := fun v H2 => ∃ (p : Addr) (as : List Addr) (rows : List DR), v = .ref p ∧ H2 p = some (.lst (refsV as)) ∧ Tups K H2 as (rows.map rowD) ∧ RowsOk 40 30 rows) (ea_cons (ev_var rfl) (ea_cons (ev_var rfl) (ea_cons ev_c (ea_cons ev_c ea_nil)))) s15 (fun H17 e17 => ⟨_, ⟨lp, 40, 30, zs, rfl, ex_l e17 (exs_l s14 b15 hlp14), by omega, by omega, hzL, by omega, by omega, by omega, by omega, rfl⟩, fun v H5 ⟨p, as, rows, h1, h0, h2, h3, h4⟩ => ⟨p, as, rows, h1, h2, h3, h4⟩⟩) _ fun v H17 b17 s17 ⟨dc, das, rows, hv, hdc, hdT, hRO⟩ => ?_)
        subst hv
        have O := hRO.ok
        have h64 : rows.length < 64 := by have := hRO.many; omega
        have b147 : ExB D H14 H17 := b15.trans b17
        have hdcR : RowsAt K H17 dc (rows.map rowD) := ⟨das, sq_of hdc, hdT⟩
        refine q_asgN (en_doc (ea_cons (ev_var rfl) ea_nil) hdcR O) fun tr H18 h18 e18 hdoc => ?_
        have hV17 := RowsAt.exs s14 b147 hV14
        have hL17 := RowsAt.exs s14 b147 hL14
        have hwp17 := exs_t s14 b147 hwp14
        have hqr17 := QueOb.exs s14 b147 hqr14
        have hql17 := QueOb.exs s14 b147 hql14
        refine q_asgN (en_call (P := fun p H2 => H2 p = some (.lst (natV (Fb rows Vs (root0 Vs) w0)))) (ea_cons (ev_var rfl) (ea_cons (ev_var rfl) (ea_cons (ev_var rfl) ea_nil))) fun H19 e19 => ⟨dc, rp, w0, rows, Vs, rfl, hdcR.mono (e18.trans e19), O, h64, hV17.mono (e18.trans e19), hV.ok, hw, rfl⟩) fun kp H19 h19 e19 hkp => ?_
        have e179 := e18.trans e19
        refine q_asgN (en_call (P := fun p H2 => H2 p = some (.lst (natV (Fb rows (BM.laidRows Vs (headed (r0 :: Rt) rv.2.1) w0) (root0 (BM.laidRows Vs (headed (r0 :: Rt) rv.2.1) w0)) (BM.e2 w0 (BM.behind Vs w0) g0))))) (ea_cons (ev_var rfl) (ea_cons (ev_op (ev_var rfl) ev_c (rv_ixT (i := 0) (ex_t e179 hwp17) rfl)) (ea_cons (ev_op (ev_var rfl) ev_c (rv_ixT (i := 1) (ex_t e179 hwp17) rfl)) ea_nil))) fun H20 e20 => ⟨dc, ll, _, rows, _, rfl, hdcR.mono (e179.trans e20), O, h64, hL17.mono (e179.trans e20), hOL, hLg, rfl⟩) fun du H20 h20 e20 hdu => ?_
        have e170 := e179.trans e20
        have hdoc20 := hdoc.mono (e19.trans e20)
        have hkp20 := e20 _ _ hkp
        have hd1 := due_eq (rows := rows) (kp := Fb rows Vs (root0 Vs) w0) hV.good hRo.good hw hgo hlab0 fun x => Iff.rfl
        have hd2 := due_eq (rows := rows) (kp := (Fb rows Vs (root0 Vs) w0).reverse ++ (Fb rows Vs (root0 Vs) w0).take 2) hV.good hRo.good hw hgo hlab0 fun x => by
          rw [List.mem_append, List.mem_reverse]
          exact ⟨fun h => h.elim id List.mem_of_mem_take, .inl⟩
        have hFl : (Fb rows Vs (root0 Vs) w0).length ≤ 64 := Nat.le_trans Fb_len (by omega)
        have ht1 := EvN.toP (en_call (σ := [some (.ref a), some (.int (i : Int)), some (.ref D), some (.ref lp), some (.ref rp), some (.int (w0 : Int)), some (.ref mp), some (.int (g0 : Int)), some (.ref wp), some (.ref qr), some (.ref ql), some y, some (.ref dc), some (.ref tr), some (.ref kp), some (.ref du)]) (H := H20) (E := E0) (P := fun p H2 => H2 p = some (.lst (natV (BM.tbl rows.length fun z => ∃ x ∈ Fb rows Vs (root0 Vs) w0, BM.Full (BM.docT rows) (BM.queT (headed (r0 :: Rt) rv.2.1)) (fun y => y = x) g0 z))))
          (R := fun vs H P => ∃ (a b c : Addr) (w : Nat) (rows : List DR) (qs : List QR) (kp : List Nat), vs = [.ref a, .ref c, .ref b] ∧ DocOb K CD H a rows ∧ OkD rows ∧ rows.length < 64 ∧ QueOb K CQ CS CA H b qs w ∧ OkQ qs ∧ w < qs.length ∧ SqL K H c (natV kp) ∧ (∀ p ∈ kp, p < rows.length) ∧ P = fun p H2 => H2 p = some (.lst (natV (BM.tbl rows.length fun z => ∃ x ∈ kp, BM.Full (BM.docT rows) (BM.queT qs) (fun y => y = x) w z))))
          (ea_cons (ev_var (i := 13) rfl) (ea_cons (ev_var (i := 14) rfl) (ea_cons (ev_var (i := 9) rfl) ea_nil))) fun H21 e21 => ⟨tr, qr, kp, g0, rows, _, _, rfl, hdoc20.mono e21, O, h64, hqr17.mono (e170.trans e21), hRo.ok, hgo, sq_of (e21 _ _ hkp20), fun p hp => Fb_lt hp, rfl⟩)
        rw [hd1] at ht1
        have ht2 := EvN.toP (en_call3L (σ := [some (.ref a), some (.int (i : Int)), some (.ref D), some (.ref lp), some (.ref rp), some (.int (w0 : Int)), some (.ref mp), some (.int (g0 : Int)), some (.ref wp), some (.ref qr), some (.ref ql), some y, some (.ref dc), some (.ref tr), some (.ref kp), some (.ref du)]) (H := H20) (E := E0) (P := fun p H2 => H2 p = some (.lst (natV (BM.tbl rows.length fun z => ∃ x ∈ (Fb rows Vs (root0 Vs) w0).reverse ++ (Fb rows Vs (root0 Vs) w0).take 2, BM.Full (BM.docT rows) (BM.queT (headed (r0 :: Rt) rv.2.1)) (fun y => y = x) g0 z))))
          (R := fun vs H P => ∃ (a b c : Addr) (w : Nat) (rows : List DR) (qs : List QR) (kp : List Nat), vs = [.ref a, .ref c, .ref b] ∧ DocOb K CD H a rows ∧ OkD rows ∧ rows.length < 64 ∧ QueOb K CQ CS CA H b qs w ∧ OkQ qs ∧ w < qs.length ∧ SqL K H c (natV kp) ∧ (∀ p ∈ kp, p < rows.length) ∧ P = fun p H2 => H2 p = some (.lst (natV (BM.tbl rows.length fun z => ∃ x ∈ kp, BM.Full (BM.docT rows) (BM.queT qs) (fun y => y = x) w z))))
          (xs := natV ((Fb rows Vs (root0 Vs) w0).reverse ++ (Fb rows Vs (root0 Vs) w0).take 2)) (tb := tOp rCat (tListRev K (tVar 14)) (tSl (rSlL K) (tVar 14) tNoPart (tPart (tC (.int 2))))) (ev_var (i := 13) rfl) (by
            have h1 := el_listRev (K := K) (ta := tVar 14) (σ := [some (.ref a), some (.int (i : Int)), some (.ref D), some (.ref lp), some (.ref rp), some (.int (w0 : Int)), some (.ref mp), some (.int (g0 : Int)), some (.ref wp), some (.ref qr), some (.ref ql), some y, some (.ref dc), some (.ref tr), some (.ref kp), some (.ref du)]) (H := H20) (ev_var rfl) (sq_of hkp20)
            have h2 := el_sl (K := K) (te := tVar 14) (σ := [some (.ref a), some (.int (i : Int)), some (.ref D), some (.ref lp), some (.ref rp), some (.int (w0 : Int)), some (.ref mp), some (.int (g0 : Int)), some (.ref wp), some (.ref qr), some (.ref ql), some y, some (.ref dc), some (.ref tr), some (.ref kp), some (.ref du)]) (H := H20) (ev_var rfl) eo_none (eo_some (i := ((2 : Nat) : Int)) ev_c) (sq_of hkp20)
            rw [cut_to, ← natV_take] at h2
            have h3 : (natV (Fb rows Vs (root0 Vs) w0)).reverse = natV (Fb rows Vs (root0 Vs) w0).reverse := List.map_reverse.symm
            rw [h3] at h1
            have h4 := el_catN h1 h2 (by rw [natV_len, natV_len, List.length_reverse, List.length_take]; omega)
            rw [← natV_append] at h4
            exact h4) (ev_var (i := 9) rfl) fun p H21 e21 hp => ⟨tr, qr, p, g0, rows, _, _, rfl, hdoc20.mono e21, O, h64, hqr17.mono (e170.trans e21), hRo.ok, hgo, sq_of hp, fun x hx => by
              rcases List.mem_append.mp hx with h | h
              · exact Fb_lt (List.mem_reverse.mp h)
              · exact Fb_lt (List.mem_of_mem_take h), rfl⟩)
        rw [hd2] at ht2
        refine q_when (b := false) (et_is (et_or (et_neSame ht1 (ev_var rfl) hdu) fun _ => et_neSame (ep_call (ea_cons (ev_var rfl) (ea_cons (ev_var rfl) ea_nil)) fun H21 e21 => ⟨tr, ql, _, rows, _, rfl, hdoc20.mono e21, O, hql17.mono (e170.trans e21), hOL, hLg, rfl⟩) (ev_var rfl) hdu) rfl) (fun q => by cases q) fun _ H21 e21 => ?_
        exact s_when (b := false) ((et_neSame ht2 (ev_var rfl) hdu).mono e21) (fun q => by cases q) fun _ H22 e22 => ⟨_, _, _, _, _, rfl, b147.trans (ExB.of ((e170.trans e21).trans e22)), s17.mono ((e170.trans e21).trans e22)⟩
      · rintro σ' H15 ⟨v11, v12, v13, v14, v15, rfl, b15, s15⟩
        exact ⟨_, _, _, _, _, _, _, _, _, _, _, _, _, _, _, rfl, fun x o hx => b15 x o (fun z => by rw [z, hD0] at hx; cases hx) (e014 _ _ hx)⟩
    · rintro σ' H' ⟨v1, v2, v3, v4, v5, v6, v7, v8, v9, v10, v11, v12, v13, v14, v15, rfl, e⟩
      exact s_ret ev_c fun H2 e2 => k H2
theorem main {fa : Addr} (hfa : mg "law" = some (.ref fa)) (T : Txt K mg CD CQ CS CA) (D : GDef K mg "law" s_law) :
    ∃ fd : FuncData, (∀ (s : Shared) (u : Value), BindsTo s fd ⟨[u], []⟩ [("_law_script", u)]) ∧ ∀ base : Heap, K.In base → base.Ns mainGlobals mg → FnOk P w K mg base CX0 10 fa fd ["_law_script"] (spLaw K) := by
  obtain ⟨f, fd, F, hm⟩ := D.ex
  have e : f = fa := by
    rw [hm] at hfa
    cases hfa
    rfl
  subst e
  refine ⟨fd, fun s u => ?_, fun base _ _ => ok_law T F⟩
  obtain ⟨oc, od, kV, doc, pm, an, cdv, ct, osl, rfl, _, _⟩ := F.ex
  exact .of_eq rfl
end
end Bo
set_option Elab.async false
set_option linter.all false
set_option maxRecDepth 100000
set_option maxHeartbeats 4000000
namespace Bo
open PySem PySem.Spec PyProof.Rows L2 Evl BK
theorem gdef_mk {K : PySem.W.Frag} {mg : Str → Option Value} {h : Heap} {x : Str} {st : Stmt} {f : Addr} {oc : Value} {od an : Option Addr} {osl : Array (Option Value)} {kV doc pm cdv ct : Value} (X : K.In h) (G : h.Ns mainGlobals mg)
    (a : PySem.W.nsIn K mainGlobals x = some (some (.ref f))) (l : K.lookup f = some ⟨oc, od, .func (PySem.W.fnOf x x (defArgs st) (defBody st) (defScope st) .none kV doc pm an cdv ct), osl⟩)
    (c : PySem.W.codeIn K cdv x = true) (k : PySem.W.keepIn K (.ref f) = true) : GDef K mg x st := ⟨f, _, fun_mk l c k, PySem.W.mg_of X G a⟩
theorem mdef_mk {K : PySem.W.Frag} {C : Addr} {m qual : Str} {st : Stmt} {f : Addr} {oc : Value} {od an : Option Addr} {osl : Array (Option Value)} {kV doc pm cdv ct : Value}
    (a : PySem.W.findIn K (.ref C) m = some (some (.ref f))) (i : PySem.W.isFn K (.ref f) = true) (l : K.lookup f = some ⟨oc, od, .func (PySem.W.fnOf m qual (defArgs st) (defBody st) (defScope st) .none kV doc pm an cdv ct), osl⟩)
    (c : PySem.W.codeIn K cdv qual = true) (k : PySem.W.keepIn K (.ref f) = true) : MDef K C m qual st := ⟨f, _, fun_mk l c k, ⟨a, i, k⟩⟩
theorem ways_mk {K : PySem.W.Frag} {mg : Str → Option Value} {h : Heap} {a : Addr} {n : Nat} {t u : Tok} {sl : Array (Option Value)} (X : K.In h) (G : h.Ns mainGlobals mg)
    (e : PySem.W.nsIn K mainGlobals "WAYS" = some (some (.ref a))) (l : K.lookup a = some ⟨.type "list", none, .seq #[.str "/" t, .str "//" u] n, sl⟩) : ∃ a, mg "WAYS" = some (.ref a) ∧ WaysAt K a :=
  ⟨a, PySem.W.mg_of X G e, ⟨_, _, _, l, rfl, rfl, rfl, (by show 2 ≤ sizeLine; decide), .cons ⟨_, rfl⟩ (.cons ⟨_, rfl⟩ .nil)⟩⟩
theorem noattr_mk {K : PySem.W.Frag} {C : Addr} {f : Str} (h : PySem.W.findIn K (.ref C) f = some none) : NoAttr K C f := h
theorem str_mk {K : PySem.W.Frag} {mg : Str → Option Value} {h : Heap} {x z : Str} {v : Value} {t : Tok} (X : K.In h) (G : h.Ns mainGlobals mg) (e : PySem.W.nsIn K mainGlobals x = some (some v)) (hv : v = .str z t) : ∃ t, mg x = some (.str z t) := ⟨t, by rw [← hv]; exact PySem.W.mg_of X G e⟩
theorem int_mk {K : PySem.W.Frag} {mg : Str → Option Value} {h : Heap} {x : Str} {z : Int} {v : Value} {t : Tok} (X : K.In h) (G : h.Ns mainGlobals mg) (e : PySem.W.nsIn K mainGlobals x = some (some v)) (hv : v = .int z t) : ∃ t, mg x = some (.int z t) := ⟨t, by rw [← hv]; exact PySem.W.mg_of X G e⟩
theorem walk {l : PySem.W.OpenLaw} {q : Program} {loose : List Str} {XP : (Str → Option Value) → Heap → Prop} {YP : World → Heap → Prop} {d : DefRec} {K : Params → PySem.W.Frag} (hn : l.most = some 63) (hdf : d.params.defaults = [])
    (hY : ∀ (w : World) (h : Heap), YP w h → (K w.params).In h)
    (F : ∀ (w : World) (mg : Str → Option Value) (fa : Addr) (h : Heap), (K w.params).In h → h.Ns mainGlobals mg → mg d.name = some (.ref fa) →
      ∃ fd : FuncData, (∀ (s : Shared) (u : Value), BindsTo s fd ⟨[u], []⟩ [("_law_script", u)]) ∧ ∀ base : Heap, (K w.params).In base → base.Ns mainGlobals mg → FnOk l.prog w (K w.params) mg base CX0 10 fa fd ["_law_script"] (spLaw (K w.params))) :
    PySem.W.WalkO q loose XP YP l.row.toRowW d [] (fun f vs => PySem.call f vs) :=
  L2.walk_of (n := 63) (k := 10) (x := "_law_script") (CX := fun _ => CX0) (sp := fun w => spLaw (K w.params)) hn (by decide) hdf ⟨rfl, by decide, by decide⟩ hY F (fun _ _ a ns hl _ hS => ⟨a, ns, rfl, hS, hl, fun _ => rfl⟩) fun _ _ _ _ _ z => z
end Bo
open PySem PySem.W PyProof.Rows
set_option maxRecDepth 100000 in
set_option maxHeartbeats 0 in
theorem PySem.Challenge.cw_boughask_k73_whole_through_kept_answers_holds : PySem.Challenge.rw_boughask_k73_whole_through_kept_answers.Holds := by
  w_on; o_law; k_head; (case hw => w_witness2)
  k_fill
  refine Bo.walk (l := PySem.Challenge.rw_boughask_k73_whole_through_kept_answers) rfl rfl (fun w h Y => PySem.W.kIn_of Y) ?F
  case F =>
    intro w mg fa h KX G hmg
    refine' Bo.main (CD := ?CD) (CQ := ?CQ) (CS := ?CS) (CA := ?CA) hmg ⟨Bo.gdef_mk KX G ?a_is_whole ?l_is_whole ?c_is_whole ?k_is_whole, Bo.gdef_mk KX G ?a_is_within ?l_is_within ?c_is_within ?k_is_within, Bo.gdef_mk KX G ?a_is_label ?l_is_label ?c_is_label ?k_is_label, Bo.gdef_mk KX G ?a_ends_by ?l_ends_by ?c_ends_by ?k_ends_by, Bo.gdef_mk KX G ?a_uppers_by ?l_uppers_by ?c_uppers_by ?k_uppers_by, Bo.gdef_mk KX G ?a_is_part_row ?l_is_part_row ?c_is_part_row ?k_is_part_row, Bo.gdef_mk KX G ?a_step_of ?l_step_of ?c_step_of ?k_step_of, Bo.gdef_mk KX G ?a_is_step_row ?l_is_step_row ?c_is_step_row ?k_is_step_row, Bo.gdef_mk KX G ?a_with_beneath ?l_with_beneath ?c_with_beneath ?k_with_beneath, Bo.gdef_mk KX G ?a_with_above ?l_with_above ?c_with_above ?k_with_above, Bo.gdef_mk KX G ?a_down_row ?l_down_row ?c_down_row ?k_down_row, Bo.gdef_mk KX G ?a_full_row ?l_full_row ?c_full_row ?k_full_row, Bo.gdef_mk KX G ?a_down_table ?l_down_table ?c_down_table ?k_down_table, Bo.gdef_mk KX G ?a_full_table ?l_full_table ?c_full_table ?k_full_table, Bo.gdef_mk KX G ?a_beneath_any ?l_beneath_any ?c_beneath_any ?k_beneath_any, Bo.gdef_mk KX G ?a_told_at ?l_told_at ?c_told_at ?k_told_at, Bo.gdef_mk KX G ?a_through ?l_through ?c_through ?k_through, Bo.gdef_mk KX G ?a_joined_rows ?l_joined_rows ?c_joined_rows ?k_joined_rows, Bo.gdef_mk KX G ?a_together ?l_together ?c_together ?k_together, Bo.gdef_mk KX G ?a_run_slow ?l_run_slow ?c_run_slow ?k_run_slow, Bo.gdef_mk KX G ?a__law_cell_at ?l__law_cell_at ?c__law_cell_at ?k__law_cell_at, Bo.gdef_mk KX G ?a__law_source ?l__law_source ?c__law_source ?k__law_source, Bo.gdef_mk KX G ?a__law_take ?l__law_take ?c__law_take ?k__law_take, Bo.gdef_mk KX G ?a__law_labels ?l__law_labels ?c__law_labels ?k__law_labels, Bo.gdef_mk KX G ?a__law_depth ?l__law_depth ?c__law_depth ?k__law_depth, Bo.gdef_mk KX G ?a__law_rows ?l__law_rows ?c__law_rows ?k__law_rows, Bo.gdef_mk KX G ?a__law_steps ?l__law_steps ?c__law_steps ?k__law_steps, Bo.gdef_mk KX G ?a__law_uppers ?l__law_uppers ?c__law_uppers ?k__law_uppers, Bo.gdef_mk KX G ?a__law_beneath ?l__law_beneath ?c__law_beneath ?k__law_beneath, Bo.gdef_mk KX G ?a__law_question ?l__law_question ?c__law_question ?k__law_question, Bo.gdef_mk KX G ?a__law_down ?l__law_down ?c__law_down ?k__law_down, Bo.gdef_mk KX G ?a__law_pairs ?l__law_pairs ?c__law_pairs ?k__law_pairs, Bo.gdef_mk KX G ?a__law_answer ?l__law_answer ?c__law_answer ?k__law_answer, Bo.gdef_mk KX G ?a__law_end ?l__law_end ?c__law_end ?k__law_end, Bo.gdef_mk KX G ?a__law_laid ?l__law_laid ?c__law_laid ?k__law_laid, Bo.mdef_mk ?a_i_Document ?i_i_Document ?l_i_Document ?c_i_Document ?k_i_Document, Bo.mdef_mk ?a_m_Document_need_part ?i_m_Document_need_part ?l_m_Document_need_part ?c_m_Document_need_part ?k_m_Document_need_part, Bo.mdef_mk ?a_m_Document_label_of ?i_m_Document_label_of ?l_m_Document_label_of ?c_m_Document_label_of ?k_m_Document_label_of, Bo.mdef_mk ?a_m_Document_end_of ?i_m_Document_end_of ?l_m_Document_end_of ?c_m_Document_end_of ?k_m_Document_end_of, Bo.mdef_mk ?a_m_Document_upper_of ?i_m_Document_upper_of ?l_m_Document_upper_of ?c_m_Document_upper_of ?k_m_Document_upper_of, Bo.mdef_mk ?a_m_Document_lowers_of ?i_m_Document_lowers_of ?l_m_Document_lowers_of ?c_m_Document_lowers_of ?k_m_Document_lowers_of, Bo.mdef_mk ?a_m_Document_is_beneath ?i_m_Document_is_beneath ?l_m_Document_is_beneath ?c_m_Document_is_beneath ?k_m_Document_is_beneath, Bo.mdef_mk ?a_m_Document_parts_of ?i_m_Document_parts_of ?l_m_Document_parts_of ?c_m_Document_parts_of ?k_m_Document_parts_of, Bo.mdef_mk ?a_i_Straight ?i_i_Straight ?l_i_Straight ?c_i_Straight ?k_i_Straight, Bo.mdef_mk ?a_i_Anywhere ?i_i_Anywhere ?l_i_Anywhere ?c_i_Anywhere ?k_i_Anywhere, Bo.mdef_mk ?a_m_Straight_way ?i_m_Straight_way ?l_m_Straight_way ?c_m_Straight_way ?k_m_Straight_way, Bo.mdef_mk ?a_m_Anywhere_way ?i_m_Anywhere_way ?l_m_Anywhere_way ?c_m_Anywhere_way ?k_m_Anywhere_way, Bo.mdef_mk ?a_i_Question ?i_i_Question ?l_i_Question ?c_i_Question ?k_i_Question, Bo.mdef_mk ?a_m_Question_need_step ?i_m_Question_need_step ?l_m_Question_need_step ?c_m_Question_need_step ?k_m_Question_need_step, Bo.mdef_mk ?a_m_Question_many ?i_m_Question_many ?l_m_Question_many ?c_m_Question_many ?k_m_Question_many, Bo.mdef_mk ?a_m_Question_step_at ?i_m_Question_step_at ?l_m_Question_step_at ?c_m_Question_step_at ?k_m_Question_step_at, Bo.mdef_mk ?a_m_Question_depth_of ?i_m_Question_depth_of ?l_m_Question_depth_of ?c_m_Question_depth_of ?k_m_Question_depth_of, Bo.mdef_mk ?a_m_Question_end_of ?i_m_Question_end_of ?l_m_Question_end_of ?c_m_Question_end_of ?k_m_Question_end_of, Bo.mdef_mk ?a_m_Question_upper_of ?i_m_Question_upper_of ?l_m_Question_upper_of ?c_m_Question_upper_of ?k_m_Question_upper_of, Bo.mdef_mk ?a_m_Question_lowers_of ?i_m_Question_lowers_of ?l_m_Question_lowers_of ?c_m_Question_lowers_of ?k_m_Question_lowers_of, Bo.mdef_mk ?a_m_Question_wanted ?i_m_Question_wanted ?l_m_Question_wanted ?c_m_Question_wanted ?k_m_Question_wanted, Bo.mdef_mk ?a_m_Question_rows ?i_m_Question_rows ?l_m_Question_rows ?c_m_Question_rows ?k_m_Question_rows, ⟨?pg_D, ?hd_D, ?po_D, ?sa_D⟩, ?mk_D, ?kp_D, PySem.W.mg_of KX G ?x_D, Bo.noattr_mk ?nD_parts, Bo.noattr_mk ?nD_ends, Bo.noattr_mk ?nD_uppers, ⟨?pg_Q, ?hd_Q, ?po_Q, ?sa_Q⟩, ?mk_Q, ?kp_Q, PySem.W.mg_of KX G ?x_Q, Bo.noattr_mk ?nQ_given_rows, Bo.noattr_mk ?nQ_goal, Bo.noattr_mk ?nQ_steps, Bo.noattr_mk ?nQ_ends, Bo.noattr_mk ?nQ_uppers, ⟨?pg_S, ?hd_S, ?po_S, ?sa_S⟩, ?mk_S, ?kp_S, PySem.W.mg_of KX G ?x_S, Bo.noattr_mk ?nS_label, ⟨?pg_A, ?hd_A, ?po_A, ?sa_A⟩, ?mk_A, ?kp_A, PySem.W.mg_of KX G ?x_A, Bo.noattr_mk ?nA_label, PySem.W.mg_none_of KX G ?z_len, PySem.W.mg_none_of KX G ?z_min, PySem.W.mg_none_of KX G ?z_max, PySem.W.mg_none_of KX G ?z_any, PySem.W.mg_none_of KX G ?z_all, PySem.W.mg_none_of KX G ?z_sorted, PySem.W.mg_none_of KX G ?z_list, PySem.W.mg_none_of KX G ?z_tuple, PySem.W.mg_none_of KX G ?z_isinstance, PySem.W.mg_none_of KX G ?z_reversed, PySem.W.mg_none_of KX G ?z_range, PySem.W.mg_none_of KX G ?z_enumerate, PySem.W.mg_none_of KX G ?z_int, PySem.W.mg_none_of KX G ?z_str, PySem.W.mg_none_of KX G ?z_bool, Bo.str_mk KX G ?c_LETTERS ?v_LETTERS, Bo.int_mk KX G ?c_MOST_LETTERS ?v_MOST_LETTERS, Bo.int_mk KX G ?c_MOST_PARTS ?v_MOST_PARTS, Bo.int_mk KX G ?c_MOST_DEEP_document ?v_MOST_DEEP_document, Bo.int_mk KX G ?c_MOST_STEPS ?v_MOST_STEPS, Bo.int_mk KX G ?c_MOST_DEEP_question ?v_MOST_DEEP_question, Bo.ways_mk KX G ?c_WAYS ?l_WAYS⟩ (Bo.gdef_mk KX G ?a_law ?l_law ?c_law ?k_law)
    (case x_D => k_is)
    (case x_Q => k_is)
    (case x_S => k_is)
    (case x_A => k_is)
    (case a_is_whole => k_is)
    (case l_is_whole => k_is)
    (case c_is_whole => k_is)
    (case k_is_whole => k_is)
    (case a_is_within => k_is)
    (case l_is_within => k_is)
    (case c_is_within => k_is)
    (case k_is_within => k_is)
    (case a_is_label => k_is)
    (case l_is_label => k_is)
    (case c_is_label => k_is)
    (case k_is_label => k_is)
    (case a_ends_by => k_is)
    (case l_ends_by => k_is)
    (case c_ends_by => k_is)
    (case k_ends_by => k_is)
    (case a_uppers_by => k_is)
    (case l_uppers_by => k_is)
    (case c_uppers_by => k_is)
    (case k_uppers_by => k_is)
    (case a_is_part_row => k_is)
    (case l_is_part_row => k_is)
    (case c_is_part_row => k_is)
    (case k_is_part_row => k_is)
    (case a_step_of => k_is)
    (case l_step_of => k_is)
    (case c_step_of => k_is)
    (case k_step_of => k_is)
    (case a_is_step_row => k_is)
    (case l_is_step_row => k_is)
    (case c_is_step_row => k_is)
    (case k_is_step_row => k_is)
    (case a_with_beneath => k_is)
    (case l_with_beneath => k_is)
    (case c_with_beneath => k_is)
    (case k_with_beneath => k_is)
    (case a_with_above => k_is)
    (case l_with_above => k_is)
    (case c_with_above => k_is)
    (case k_with_above => k_is)
    (case a_down_row => k_is)
    (case l_down_row => k_is)
    (case c_down_row => k_is)
    (case k_down_row => k_is)
    (case a_full_row => k_is)
    (case l_full_row => k_is)
    (case c_full_row => k_is)
    (case k_full_row => k_is)
    (case a_down_table => k_is)
    (case l_down_table => k_is)
    (case c_down_table => k_is)
    (case k_down_table => k_is)
    (case a_full_table => k_is)
    (case l_full_table => k_is)
    (case c_full_table => k_is)
    (case k_full_table => k_is)
    (case a_beneath_any => k_is)
    (case l_beneath_any => k_is)
    (case c_beneath_any => k_is)
    (case k_beneath_any => k_is)
    (case a_told_at => k_is)
    (case l_told_at => k_is)
    (case c_told_at => k_is)
    (case k_told_at => k_is)
    (case a_through => k_is)
    (case l_through => k_is)
    (case c_through => k_is)
    (case k_through => k_is)
    (case a_joined_rows => k_is)
    (case l_joined_rows => k_is)
    (case c_joined_rows => k_is)
    (case k_joined_rows => k_is)
    (case a_together => k_is)
    (case l_together => k_is)
    (case c_together => k_is)
    (case k_together => k_is)
    (case a_run_slow => k_is)
    (case l_run_slow => k_is)
    (case c_run_slow => k_is)
    (case k_run_slow => k_is)
    (case a__law_cell_at => k_is)
    (case l__law_cell_at => k_is)
    (case c__law_cell_at => k_is)
    (case k__law_cell_at => k_is)
    (case a__law_source => k_is)
    (case l__law_source => k_is)
    (case c__law_source => k_is)
    (case k__law_source => k_is)
    (case a__law_take => k_is)
    (case l__law_take => k_is)
    (case c__law_take => k_is)
    (case k__law_take => k_is)
    (case a__law_labels => k_is)
    (case l__law_labels => k_is)
    (case c__law_labels => k_is)
    (case k__law_labels => k_is)
    (case a__law_depth => k_is)
    (case l__law_depth => k_is)
    (case c__law_depth => k_is)
    (case k__law_depth => k_is)
    (case a__law_rows => k_is)
    (case l__law_rows => k_is)
    (case c__law_rows => k_is)
    (case k__law_rows => k_is)
    (case a__law_steps => k_is)
    (case l__law_steps => k_is)
    (case c__law_steps => k_is)
    (case k__law_steps => k_is)
    (case a__law_uppers => k_is)
    (case l__law_uppers => k_is)
    (case c__law_uppers => k_is)
    (case k__law_uppers => k_is)
    (case a__law_beneath => k_is)
    (case l__law_beneath => k_is)
    (case c__law_beneath => k_is)
    (case k__law_beneath => k_is)
    (case a__law_question => k_is)
    (case l__law_question => k_is)
    (case c__law_question => k_is)
    (case k__law_question => k_is)
    (case a__law_down => k_is)
    (case l__law_down => k_is)
    (case c__law_down => k_is)
    (case k__law_down => k_is)
    (case a__law_pairs => k_is)
    (case l__law_pairs => k_is)
    (case c__law_pairs => k_is)
    (case k__law_pairs => k_is)
    (case a__law_answer => k_is)
    (case l__law_answer => k_is)
    (case c__law_answer => k_is)
    (case k__law_answer => k_is)
    (case a__law_end => k_is)
    (case l__law_end => k_is)
    (case c__law_end => k_is)
    (case k__law_end => k_is)
    (case a__law_laid => k_is)
    (case l__law_laid => k_is)
    (case c__law_laid => k_is)
    (case k__law_laid => k_is)
    (case a_i_Document => k_is)
    (case i_i_Document => k_is)
    (case l_i_Document => k_is)
    (case c_i_Document => k_is)
    (case k_i_Document => k_is)
    (case a_m_Document_need_part => k_is)
    (case i_m_Document_need_part => k_is)
    (case l_m_Document_need_part => k_is)
    (case c_m_Document_need_part => k_is)
    (case k_m_Document_need_part => k_is)
    (case a_m_Document_label_of => k_is)
    (case i_m_Document_label_of => k_is)
    (case l_m_Document_label_of => k_is)
    (case c_m_Document_label_of => k_is)
    (case k_m_Document_label_of => k_is)
    (case a_m_Document_end_of => k_is)
    (case i_m_Document_end_of => k_is)
    (case l_m_Document_end_of => k_is)
    (case c_m_Document_end_of => k_is)
    (case k_m_Document_end_of => k_is)
    (case a_m_Document_upper_of => k_is)
    (case i_m_Document_upper_of => k_is)
    (case l_m_Document_upper_of => k_is)
    (case c_m_Document_upper_of => k_is)
    (case k_m_Document_upper_of => k_is)
    (case a_m_Document_lowers_of => k_is)
    (case i_m_Document_lowers_of => k_is)
    (case l_m_Document_lowers_of => k_is)
    (case c_m_Document_lowers_of => k_is)
    (case k_m_Document_lowers_of => k_is)
    (case a_m_Document_is_beneath => k_is)
    (case i_m_Document_is_beneath => k_is)
    (case l_m_Document_is_beneath => k_is)
    (case c_m_Document_is_beneath => k_is)
    (case k_m_Document_is_beneath => k_is)
    (case a_m_Document_parts_of => k_is)
    (case i_m_Document_parts_of => k_is)
    (case l_m_Document_parts_of => k_is)
    (case c_m_Document_parts_of => k_is)
    (case k_m_Document_parts_of => k_is)
    (case a_i_Straight => k_is)
    (case i_i_Straight => k_is)
    (case l_i_Straight => k_is)
    (case c_i_Straight => k_is)
    (case k_i_Straight => k_is)
    (case a_i_Anywhere => k_is)
    (case i_i_Anywhere => k_is)
    (case l_i_Anywhere => k_is)
    (case c_i_Anywhere => k_is)
    (case k_i_Anywhere => k_is)
    (case a_m_Straight_way => k_is)
    (case i_m_Straight_way => k_is)
    (case l_m_Straight_way => k_is)
    (case c_m_Straight_way => k_is)
    (case k_m_Straight_way => k_is)
    (case a_m_Anywhere_way => k_is)
    (case i_m_Anywhere_way => k_is)
    (case l_m_Anywhere_way => k_is)
    (case c_m_Anywhere_way => k_is)
    (case k_m_Anywhere_way => k_is)
    (case a_i_Question => k_is)
    (case i_i_Question => k_is)
    (case l_i_Question => k_is)
    (case c_i_Question => k_is)
    (case k_i_Question => k_is)
    (case a_m_Question_need_step => k_is)
    (case i_m_Question_need_step => k_is)
    (case l_m_Question_need_step => k_is)
    (case c_m_Question_need_step => k_is)
    (case k_m_Question_need_step => k_is)
    (case a_m_Question_many => k_is)
    (case i_m_Question_many => k_is)
    (case l_m_Question_many => k_is)
    (case c_m_Question_many => k_is)
    (case k_m_Question_many => k_is)
    (case a_m_Question_step_at => k_is)
    (case i_m_Question_step_at => k_is)
    (case l_m_Question_step_at => k_is)
    (case c_m_Question_step_at => k_is)
    (case k_m_Question_step_at => k_is)
    (case a_m_Question_depth_of => k_is)
    (case i_m_Question_depth_of => k_is)
    (case l_m_Question_depth_of => k_is)
    (case c_m_Question_depth_of => k_is)
    (case k_m_Question_depth_of => k_is)
    (case a_m_Question_end_of => k_is)
    (case i_m_Question_end_of => k_is)
    (case l_m_Question_end_of => k_is)
    (case c_m_Question_end_of => k_is)
    (case k_m_Question_end_of => k_is)
    (case a_m_Question_upper_of => k_is)
    (case i_m_Question_upper_of => k_is)
    (case l_m_Question_upper_of => k_is)
    (case c_m_Question_upper_of => k_is)
    (case k_m_Question_upper_of => k_is)
    (case a_m_Question_lowers_of => k_is)
    (case i_m_Question_lowers_of => k_is)
    (case l_m_Question_lowers_of => k_is)
    (case c_m_Question_lowers_of => k_is)
    (case k_m_Question_lowers_of => k_is)
    (case a_m_Question_wanted => k_is)
    (case i_m_Question_wanted => k_is)
    (case l_m_Question_wanted => k_is)
    (case c_m_Question_wanted => k_is)
    (case k_m_Question_wanted => k_is)
    (case a_m_Question_rows => k_is)
    (case i_m_Question_rows => k_is)
    (case l_m_Question_rows => k_is)
    (case c_m_Question_rows => k_is)
    (case k_m_Question_rows => k_is)
    (case pg_D => k_is)
    (case hd_D => k_is)
    (case po_D => k_is)
    (case sa_D => k_is)
    (case mk_D => k_is)
    (case kp_D => k_is)
    (case nD_parts => k_is)
    (case nD_ends => k_is)
    (case nD_uppers => k_is)
    (case pg_Q => k_is)
    (case hd_Q => k_is)
    (case po_Q => k_is)
    (case sa_Q => k_is)
    (case mk_Q => k_is)
    (case kp_Q => k_is)
    (case nQ_given_rows => k_is)
    (case nQ_goal => k_is)
    (case nQ_steps => k_is)
    (case nQ_ends => k_is)
    (case nQ_uppers => k_is)
    (case pg_S => k_is)
    (case hd_S => k_is)
    (case po_S => k_is)
    (case sa_S => k_is)
    (case mk_S => k_is)
    (case kp_S => k_is)
    (case nS_label => k_is)
    (case pg_A => k_is)
    (case hd_A => k_is)
    (case po_A => k_is)
    (case sa_A => k_is)
    (case mk_A => k_is)
    (case kp_A => k_is)
    (case nA_label => k_is)
    (case z_len => k_is)
    (case z_min => k_is)
    (case z_max => k_is)
    (case z_any => k_is)
    (case z_all => k_is)
    (case z_sorted => k_is)
    (case z_list => k_is)
    (case z_tuple => k_is)
    (case z_isinstance => k_is)
    (case z_reversed => k_is)
    (case z_range => k_is)
    (case z_enumerate => k_is)
    (case z_int => k_is)
    (case z_str => k_is)
    (case z_bool => k_is)
    (case c_LETTERS => k_is)
    (case v_LETTERS => rfl)
    (case c_MOST_LETTERS => k_is)
    (case v_MOST_LETTERS => rfl)
    (case c_MOST_PARTS => k_is)
    (case v_MOST_PARTS => rfl)
    (case c_MOST_DEEP_document => k_is)
    (case v_MOST_DEEP_document => rfl)
    (case c_MOST_STEPS => k_is)
    (case v_MOST_STEPS => rfl)
    (case c_MOST_DEEP_question => k_is)
    (case v_MOST_DEEP_question => rfl)
    (case c_WAYS => k_is)
    (case l_WAYS => k_is)
    (case a_law => k_is)
    (case l_law => k_is)
    (case c_law => k_is)
    (case k_law => k_is)
    all_goals exact (0 : Nat)
