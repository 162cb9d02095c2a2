import PyProof.Rows.All
import Wide.All
import OpenK.AllK
import Wide.FinOn
import HandS.Base
import HandS.Call
import HandS.List
import HandS.Comp
import HandS.Ends
import HandS.Dict
import HandS.Iter
import HandS.Text
import HandS.Words
import HandS.WordsList
import HandS.Defaults
import HandS.EndBits
import HandS.SortRule
import HandS.SortKw
import HandS.Conv
import HandS.TupLe
import HandS.NoneIn
import HandS.More
import HandS.Zip
import KE.SortKeyHeap
import KE.DataMinMax
import PyProof.Rows.SortWalkRead
import HandS.WideBits
import HandS.Keys
import HandS.Evl
import HandS.Deep
import KE.IntBitsLaws
import HandS.TupLen
import HandS.IsInst
import HandS.Walk
import KE.KStateDown
import HandS.Head0
import HandS.Head1
import HandS.Head2
import HandS.HeadEnd
import HandS.HeadHook1
import HandS.HeadHook2
import PySem.Challenge.RW_gaze_k47_whole_the_truth_stays_in
set_option Elab.async false
set_option linter.all false
set_option maxRecDepth 100000
set_option maxHeartbeats 4000000
namespace Gz
/-! ## plain mathematics: stretches, steps, rises, marks, courses -/
abbrev Sn := Option Int × Option Int
def loOk : Option Int → Int → Prop
  | none, _ => True
  | some l, n => l ≤ n
def hiOk : Option Int → Int → Prop
  | none, _ => True
  | some h, n => n ≤ h
instance : ∀ o n, Decidable (loOk o n) | none, _ => .isTrue trivial | some l, n => inferInstanceAs (Decidable (l ≤ n))
instance : ∀ o n, Decidable (hiOk o n) | none, _ => .isTrue trivial | some l, n => inferInstanceAs (Decidable (n ≤ l))
def In (s : Sn) (n : Int) : Prop := loOk s.1 n ∧ hiOk s.2 n
instance (s : Sn) (n : Int) : Decidable (In s n) := inferInstanceAs (Decidable (_ ∧ _))

abbrev Sts := List (Int × Int)
def U (st : Sts) (k : Nat) : Int := ((st.take k).map (·.2)).sum
def L (st : Sts) (k : Nat) : Int := ((st.take k).map (·.1)).sum
def rise (st : Sts) (i j : Nat) : Int := if i ≤ j then U st j - U st i else L st j - L st i
def StOk (st : Sts) : Prop := ∀ p ∈ st, p.1 ≤ p.2

theorem take_succ_sum (f : Int × Int → Int) : ∀ (st : Sts) (k : Nat) (h : k < st.length), ((st.take (k + 1)).map f).sum = ((st.take k).map f).sum + f st[k]
  | [], k, h => absurd h (Nat.not_lt_zero _)
  | p :: r, 0, _ => by simp
  | p :: r, k + 1, h => by
    have ih := take_succ_sum f r k (Nat.lt_of_succ_lt_succ h)
    simp only [List.take_succ_cons, List.map_cons, List.sum_cons, List.getElem_cons_succ]
    rw [ih]
    omega
theorem U_succ {st : Sts} {k : Nat} (h : k < st.length) : U st (k + 1) = U st k + st[k].2 := take_succ_sum (·.2) st k h
theorem L_succ {st : Sts} {k : Nat} (h : k < st.length) : L st (k + 1) = L st k + st[k].1 := take_succ_sum (·.1) st k h
theorem U_over {st : Sts} {k : Nat} (h : st.length ≤ k) : U st (k + 1) = U st k := by
  unfold U
  rw [List.take_of_length_le h, List.take_of_length_le (Nat.le_succ_of_le h)]
theorem L_over {st : Sts} {k : Nat} (h : st.length ≤ k) : L st (k + 1) = L st k := by
  unfold L
  rw [List.take_of_length_le h, List.take_of_length_le (Nat.le_succ_of_le h)]
theorem D_step {st : Sts} (ok : StOk st) (k : Nat) : U st k - L st k ≤ U st (k + 1) - L st (k + 1) := by
  by_cases h : k < st.length
  · have := ok st[k] (List.getElem_mem h)
    rw [U_succ h, L_succ h]
    omega
  · rw [U_over (by omega), L_over (by omega)]
    omega
theorem D_mono {st : Sts} (ok : StOk st) {i : Nat} : ∀ {j : Nat}, i ≤ j → U st i - L st i ≤ U st j - L st j
  | 0, h => by
    have : i = 0 := by omega
    subst this
    omega
  | j + 1, h => by
    by_cases e : i = j + 1
    · subst e
      omega
    · have h1 := D_mono ok (i := i) (j := j) (by omega)
      have h2 := D_step ok j
      omega
theorem rise_self (st : Sts) (i : Nat) : rise st i i = 0 := by
  unfold rise
  rw [if_pos (Nat.le_refl _)]
  omega
theorem rise_tri {st : Sts} (ok : StOk st) (i j k : Nat) : rise st i k ≤ rise st i j + rise st j k := by
  have a := @D_mono st ok i j
  have b := @D_mono st ok j i
  have c := @D_mono st ok j k
  have d := @D_mono st ok k j
  have e := @D_mono st ok i k
  have f := @D_mono st ok k i
  unfold rise
  by_cases h1 : i ≤ j
  · by_cases h2 : j ≤ k
    · rw [if_pos h1, if_pos h2, if_pos (Nat.le_trans h1 h2)]
      omega
    · by_cases h3 : i ≤ k
      · rw [if_pos h1, if_neg h2, if_pos h3]
        have := d (by omega)
        omega
      · rw [if_pos h1, if_neg h2, if_neg h3]
        have := a (by omega)
        omega
  · by_cases h2 : j ≤ k
    · by_cases h3 : i ≤ k
      · rw [if_neg h1, if_pos h2, if_pos h3]
        have := b (by omega)
        omega
      · rw [if_neg h1, if_pos h2, if_neg h3]
        have := c (by omega)
        omega
    · rw [if_neg h1, if_neg h2, if_neg (by omega)]
      omega
theorem rise_up {st : Sts} {k : Nat} (h : k < st.length) : rise st k (k + 1) = st[k].2 := by
  unfold rise
  rw [if_pos (Nat.le_succ _), U_succ h]
  omega
theorem rise_down {st : Sts} {k : Nat} (h : k < st.length) : rise st (k + 1) k = - st[k].1 := by
  unfold rise
  rw [if_neg (by omega), L_succ h]
  omega
/-- the lists that the program sums -/
theorem rise_sum_up (st : Sts) {i : Nat} : ∀ {j : Nat}, i ≤ j → j ≤ st.length → rise st i j = (((st.drop i).take (j - i)).map (·.2)).sum := by
  intro j hij hj
  unfold rise U
  rw [if_pos hij]
  have e : st.take j = st.take i ++ (st.drop i).take (j - i) := by
    have h : j = i + (j - i) := by omega
    conv => lhs; rw [h]
    exact List.take_add
  rw [e, List.map_append, List.sum_append]
  omega
theorem rise_sum_down (st : Sts) {i j : Nat} (hij : ¬ i ≤ j) (hi : i ≤ st.length) : rise st i j = 0 - (((st.drop j).take (i - j)).map (·.1)).sum := by
  unfold rise L
  rw [if_neg hij]
  have e : st.take i = st.take j ++ (st.drop j).take (i - j) := by
    have h : i = j + (i - j) := by omega
    conv => lhs; rw [h]
    exact List.take_add
  rw [e, List.map_append, List.sum_append]
  omega

/-! courses -/
abbrev Mk := Nat × Sn
def cAt (c : List Int) (k : Nat) : Int := c.getD k 0
def Steps (st : Sts) (c : List Int) : Prop := c.length = st.length + 1 ∧ ∀ (k : Nat) (h : k < st.length), st[k].1 ≤ cAt c (k + 1) - cAt c k ∧ cAt c (k + 1) - cAt c k ≤ st[k].2
def Held (c : List Int) (m : Mk) : Prop := In m.2 (cAt c m.1)
def clashB (st : Sts) (m m' : Mk) : Bool := match m.2.2, m'.2.1 with
  | some h, some l => decide (h + rise st m.1 m'.1 < l)
  | _, _ => false
theorem steps_up {st : Sts} {c : List Int} (h : Steps st c) {i : Nat} : ∀ {j : Nat}, i ≤ j → j ≤ st.length → cAt c j - cAt c i ≤ U st j - U st i ∧ L st j - L st i ≤ cAt c j - cAt c i
  | 0, h1, _ => by
    have : i = 0 := by omega
    subst this
    omega
  | j + 1, h1, h2 => by
    by_cases e : i = j + 1
    · subst e
      omega
    · have ih := steps_up h (i := i) (j := j) (by omega) (by omega)
      have s := h.2 j (by omega)
      rw [U_succ (by omega), L_succ (by omega)]
      omega
theorem steps_rise {st : Sts} {c : List Int} (h : Steps st c) {i j : Nat} (hi : i ≤ st.length) (hj : j ≤ st.length) : cAt c j - cAt c i ≤ rise st i j := by
  unfold rise
  by_cases e : i ≤ j
  · rw [if_pos e]
    exact (steps_up h e hj).1
  · rw [if_neg e]
    have := (steps_up h (i := j) (j := i) (by omega) hi).2
    omega
theorem held_noclash {st : Sts} {c : List Int} (h : Steps st c) {m m' : Mk} (hm : Held c m) (hm' : Held c m') (h1 : m.1 ≤ st.length) (h2 : m'.1 ≤ st.length) : clashB st m m' = false := by
  unfold clashB
  obtain ⟨t, lo, hi⟩ := m
  obtain ⟨t', lo', hi'⟩ := m'
  have r := steps_rise h h1 h2
  cases hi with
  | none => rfl
  | some u =>
    cases lo' with
    | none => rfl
    | some l =>
      have a : cAt c t ≤ u := hm.2
      have b : l ≤ cAt c t' := hm'.1
      refine decide_eq_false ?_
      have r : cAt c t' - cAt c t ≤ rise st t t' := r
      show ¬ (u + rise st t t' < l)
      omega
def NoClash (st : Sts) (ms : List Mk) : Prop := ∀ m ∈ ms, ∀ m' ∈ ms, clashB st m m' = false
theorem noClash_at {st : Sts} {ms : List Mk} (h : NoClash st ms) {m m' : Mk} (a : m ∈ ms) (b : m' ∈ ms) {u l : Int} (hu : m.2.2 = some u) (hl : m'.2.1 = some l) : l ≤ u + rise st m.1 m'.1 := by
  have q := h m a m' b
  unfold clashB at q
  rw [hu, hl] at q
  have := of_decide_eq_false q
  omega

/-! rooms -/
def lowsM (st : Sts) (ms : List Mk) (t : Nat) : List Int := ms.filterMap fun m => m.2.1.map fun l => l - rise st t m.1
def highsM (st : Sts) (ms : List Mk) (t : Nat) : List Int := ms.filterMap fun m => m.2.2.map fun u => u + rise st m.1 t
def IsMax (xs : List Int) : Option Int → Prop
  | none => xs = []
  | some m => m ∈ xs ∧ ∀ y ∈ xs, y ≤ m
def IsMin (xs : List Int) : Option Int → Prop
  | none => xs = []
  | some m => m ∈ xs ∧ ∀ y ∈ xs, m ≤ y
def IsRoom (st : Sts) (ms : List Mk) (t : Nat) (s : Sn) : Prop := IsMax (lowsM st ms t) s.1 ∧ IsMin (highsM st ms t) s.2
theorem mem_lows {st : Sts} {ms : List Mk} {t : Nat} {x : Int} : x ∈ lowsM st ms t ↔ ∃ m ∈ ms, ∃ l, m.2.1 = some l ∧ x = l - rise st t m.1 := by
  unfold lowsM
  rw [List.mem_filterMap]
  constructor
  · rintro ⟨m, hm, e⟩
    cases h : m.2.1 with
    | none => rw [h] at e; cases e
    | some l => rw [h] at e; exact ⟨m, hm, l, h, (Option.some.inj e).symm⟩
  · rintro ⟨m, hm, l, h, e⟩
    exact ⟨m, hm, by rw [h, e]; rfl⟩
theorem mem_highs {st : Sts} {ms : List Mk} {t : Nat} {x : Int} : x ∈ highsM st ms t ↔ ∃ m ∈ ms, ∃ u, m.2.2 = some u ∧ x = u + rise st m.1 t := by
  unfold highsM
  rw [List.mem_filterMap]
  constructor
  · rintro ⟨m, hm, e⟩
    cases h : m.2.2 with
    | none => rw [h] at e; cases e
    | some l => rw [h] at e; exact ⟨m, hm, l, h, (Option.some.inj e).symm⟩
  · rintro ⟨m, hm, l, h, e⟩
    exact ⟨m, hm, by rw [h, e]; rfl⟩
/-- a course that all marks hold lies in the rooms -/
theorem room_in {st : Sts} {ms : List Mk} {t : Nat} {s : Sn} (r : IsRoom st ms t s) {c : List Int} (h : Steps st c) (hm : ∀ m ∈ ms, Held c m) (hb : ∀ m ∈ ms, m.1 ≤ st.length) (ht : t ≤ st.length) : In s (cAt c t) := by
  obtain ⟨lo, hi⟩ := s
  obtain ⟨r1, r2⟩ := r
  constructor
  · cases lo with
    | none => exact trivial
    | some l =>
      obtain ⟨m, hm1, l0, e, ex⟩ := mem_lows.mp r1.1
      have a := (hm m hm1).1
      rw [e] at a
      have a : l0 ≤ cAt c m.1 := a
      have b := steps_rise h ht (hb m hm1)
      show l ≤ cAt c t
      omega
  · cases hi with
    | none => exact trivial
    | some u =>
      obtain ⟨m, hm1, u0, e, ex⟩ := mem_highs.mp r2.1
      have a := (hm m hm1).2
      rw [e] at a
      have a : cAt c m.1 ≤ u0 := a
      have b := steps_rise h (hb m hm1) ht
      show cAt c t ≤ u
      omega
def Full (s : Sn) : Prop := ∀ l u, s.1 = some l → s.2 = some u → l ≤ u
theorem room_full {st : Sts} (ok : StOk st) {ms : List Mk} {t : Nat} {s : Sn} (r : IsRoom st ms t s) (nc : NoClash st ms) : Full s := by
  obtain ⟨lo, hi⟩ := s
  obtain ⟨r1, r2⟩ := r
  intro l u e1 e2
  dsimp only at e1 e2
  subst e1 e2
  obtain ⟨m, hm1, l0, e, ex⟩ := mem_lows.mp r1.1
  obtain ⟨m', hm1', u0, e', ex'⟩ := mem_highs.mp r2.1
  have q := noClash_at nc hm1' hm1 e' e
  have t := rise_tri ok m'.1 t m.1
  omega
/-- the low course -/
theorem lows_some {st : Sts} {ms : List Mk} {t t' : Nat} {s s' : Sn} (r : IsRoom st ms t s) (r' : IsRoom st ms t' s') {l : Int} (h : s.1 = some l) : ∃ l', s'.1 = some l' := by
  have r1 := r.1
  rw [h] at r1
  obtain ⟨m, hm, l0, e, ex⟩ := mem_lows.mp r1.1
  cases e' : s'.1 with
  | some l' => exact ⟨l', rfl⟩
  | none =>
    have r2 := r'.1
    rw [e'] at r2
    have z : (l0 - rise st t' m.1) ∈ lowsM st ms t' := mem_lows.mpr ⟨m, hm, l0, e, rfl⟩
    rw [show lowsM st ms t' = [] from r2] at z
    cases z
theorem highs_some {st : Sts} {ms : List Mk} {t t' : Nat} {s s' : Sn} (r : IsRoom st ms t s) (r' : IsRoom st ms t' s') {l : Int} (h : s.2 = some l) : ∃ l', s'.2 = some l' := by
  have r1 := r.2
  rw [h] at r1
  obtain ⟨m, hm, l0, e, ex⟩ := mem_highs.mp r1.1
  cases e' : s'.2 with
  | some l' => exact ⟨l', rfl⟩
  | none =>
    have r2 := r'.2
    rw [e'] at r2
    have z : (l0 + rise st m.1 t') ∈ highsM st ms t' := mem_highs.mpr ⟨m, hm, l0, e, rfl⟩
    rw [show highsM st ms t' = [] from r2] at z
    cases z
theorem low_diff {st : Sts} (ok : StOk st) {ms : List Mk} {t t' : Nat} {s s' : Sn} (r : IsRoom st ms t s) (r' : IsRoom st ms t' s') {l l' : Int} (h : s.1 = some l) (h' : s'.1 = some l') : l' - l ≤ rise st t t' := by
  have r1 := r.1
  have r2 := r'.1
  rw [h] at r1
  rw [h'] at r2
  obtain ⟨m, hm, l0, e, ex⟩ := mem_lows.mp r2.1
  have q := r1.2 (l0 - rise st t m.1) (mem_lows.mpr ⟨m, hm, l0, e, rfl⟩)
  have z := rise_tri ok t t' m.1
  omega
theorem high_diff {st : Sts} (ok : StOk st) {ms : List Mk} {t t' : Nat} {s s' : Sn} (r : IsRoom st ms t s) (r' : IsRoom st ms t' s') {l l' : Int} (h : s.2 = some l) (h' : s'.2 = some l') : l' - l ≤ rise st t t' := by
  have r1 := r.2
  have r2 := r'.2
  rw [h] at r1
  rw [h'] at r2
  obtain ⟨m, hm, l0, e, ex⟩ := mem_highs.mp r1.1
  have q := r2.2 (l0 + rise st m.1 t') (mem_highs.mpr ⟨m, hm, l0, e, rfl⟩)
  have z := rise_tri ok m.1 t t'
  omega
/-- steps from differences bounded by rises -/
theorem steps_of {st : Sts} {c : List Int} (hl : c.length = st.length + 1) (h : ∀ i j, i ≤ st.length → j ≤ st.length → cAt c j - cAt c i ≤ rise st i j) : Steps st c := by
  refine ⟨hl, fun k hk => ?_⟩
  have a := h k (k + 1) (by omega) (by omega)
  have b := h (k + 1) k (by omega) (by omega)
  rw [rise_up hk] at a
  rw [rise_down hk] at b
  omega
theorem cAt_of {c : List Int} {k : Nat} {x : Int} (h : c[k]? = some x) : cAt c k = x := by
  unfold cAt
  rw [List.getD_eq_getElem?_getD, h]
  rfl
theorem course_low {st : Sts} (ok : StOk st) {ms : List Mk} {rs : List Sn} (hl : rs.length = st.length + 1) (hr : ∀ t s, rs[t]? = some s → IsRoom st ms t s) (nc : NoClash st ms) (hb : ∀ m ∈ ms, m.1 ≤ st.length)
    {c : List Int} (hc : ∀ t, t ≤ st.length → ∃ s, rs[t]? = some s ∧ s.1 = some (cAt c t)) (hcl : c.length = st.length + 1) : Steps st c ∧ ∀ m ∈ ms, Held c m := by
  refine ⟨steps_of hcl fun i j hi hj => ?_, fun m hm => ?_⟩
  · obtain ⟨s, e, es⟩ := hc i hi
    obtain ⟨s', e', es'⟩ := hc j hj
    exact low_diff ok (hr i s e) (hr j s' e') es es'
  · obtain ⟨s, e, es⟩ := hc m.1 (hb m hm)
    have r := (hr _ _ e).1
    rw [es] at r
    obtain ⟨t, lo, hi⟩ := m
    constructor
    · cases lo with
      | none => exact trivial
      | some l =>
        have q := r.2 (l - rise st t t) (mem_lows.mpr ⟨_, hm, l, rfl, rfl⟩)
        rw [rise_self] at q
        have q : l - 0 ≤ cAt c t := q
        show l ≤ cAt c t
        omega
    · cases hi with
      | none => exact trivial
      | some u =>
        obtain ⟨m', hm', l0, e', ex⟩ := mem_lows.mp r.1
        have q := noClash_at nc hm hm' rfl e'
        have ex : cAt c t = l0 - rise st t m'.1 := ex
        have q : l0 ≤ u + rise st t m'.1 := q
        show cAt c t ≤ u
        omega
theorem course_high {st : Sts} (ok : StOk st) {ms : List Mk} {rs : List Sn} (hl : rs.length = st.length + 1) (hr : ∀ t s, rs[t]? = some s → IsRoom st ms t s) (nc : NoClash st ms) (hb : ∀ m ∈ ms, m.1 ≤ st.length)
    {c : List Int} (hc : ∀ t, t ≤ st.length → ∃ s, rs[t]? = some s ∧ s.2 = some (cAt c t)) (hcl : c.length = st.length + 1) : Steps st c ∧ ∀ m ∈ ms, Held c m := by
  refine ⟨steps_of hcl fun i j hi hj => ?_, fun m hm => ?_⟩
  · obtain ⟨s, e, es⟩ := hc i hi
    obtain ⟨s', e', es'⟩ := hc j hj
    exact high_diff ok (hr i s e) (hr j s' e') es es'
  · obtain ⟨s, e, es⟩ := hc m.1 (hb m hm)
    have r := (hr _ _ e).2
    rw [es] at r
    obtain ⟨t, lo, hi⟩ := m
    constructor
    · cases lo with
      | none => exact trivial
      | some l =>
        obtain ⟨m', hm', u0, e', ex⟩ := mem_highs.mp r.1
        have q := noClash_at nc hm' hm e' rfl
        have ex : cAt c t = u0 + rise st m'.1 t := ex
        have q : l ≤ u0 + rise st m'.1 t := q
        show l ≤ cAt c t
        omega
    · cases hi with
      | none => exact trivial
      | some u =>
        have q := r.2 (u + rise st t t) (mem_highs.mpr ⟨_, hm, u, rfl, rfl⟩)
        rw [rise_self] at q
        have q : cAt c t ≤ u + 0 := q
        show cAt c t ≤ u
        omega
theorem course_free {st : Sts} (ok : StOk st) {ms : List Mk} {s : Sn} (h0 : IsRoom st ms 0 s) (e1 : s.1 = none) (e2 : s.2 = none) {c : List Int} (hc : ∀ t, t ≤ st.length → cAt c t = rise st 0 t) (hcl : c.length = st.length + 1) :
    Steps st c ∧ ∀ m ∈ ms, Held c m := by
  obtain ⟨r1, r2⟩ := h0
  rw [e1] at r1
  rw [e2] at r2
  refine ⟨steps_of hcl fun i j hi hj => ?_, fun m hm => ?_⟩
  · rw [hc i hi, hc j hj]
    have := rise_tri ok 0 i j
    omega
  · obtain ⟨t, lo, hi⟩ := m
    constructor
    · cases lo with
      | none => exact trivial
      | some l =>
        have z : (l - rise st 0 t) ∈ lowsM st ms 0 := mem_lows.mpr ⟨_, hm, l, rfl, rfl⟩
        rw [show lowsM st ms 0 = [] from r1] at z
        cases z
    · cases hi with
      | none => exact trivial
      | some u =>
        have z : (u + rise st t 0) ∈ highsM st ms 0 := mem_highs.mpr ⟨_, hm, u, rfl, rfl⟩
        rw [show highsM st ms 0 = [] from r2] at z
        cases z
end Gz
namespace Gz
/-! ## gathering -/
def loLe : Option Int → Option Int → Prop
  | none, _ => True
  | some _, none => False
  | some a, some b => a ≤ b
def hiLe : Option Int → Option Int → Prop
  | _, none => True
  | none, some _ => False
  | some a, some b => a ≤ b
theorem loLe_refl : ∀ a, loLe a a | none => trivial | some _ => Int.le_refl _
theorem hiLe_refl : ∀ a, hiLe a a | none => trivial | some _ => Int.le_refl _
theorem loLe_trans : ∀ {a b c}, loLe a b → loLe b c → loLe a c
  | none, _, _, _, _ => trivial
  | some _, none, _, h, _ => h.elim
  | some _, some _, none, _, h => h.elim
  | some a, some b, some c, h, h' => Int.le_trans (show a ≤ b from h) (show b ≤ c from h')
theorem hiLe_trans : ∀ {a b c}, hiLe a b → hiLe b c → hiLe a c
  | _, _, none, _, _ => by unfold hiLe; split <;> trivial
  | _, none, some _, _, h => h.elim
  | none, some _, some _, h, _ => h.elim
  | some a, some b, some c, h, h' => Int.le_trans (show a ≤ b from h) (show b ≤ c from h')
theorem loOk_mono : ∀ {a b n}, loLe a b → loOk b n → loOk a n
  | none, _, _, _, _ => trivial
  | some _, none, _, h, _ => h.elim
  | some a, some b, n, h, h' => Int.le_trans (show a ≤ b from h) (show b ≤ n from h')
theorem hiOk_mono : ∀ {a b n}, hiLe a b → hiOk a n → hiOk b n
  | _, none, _, _, _ => trivial
  | none, some _, _, h, _ => h.elim
  | some a, some b, n, h, h' => Int.le_trans (show n ≤ a from h') (show a ≤ b from h)
def joinsB (last : Sn) : Option Int → Bool
  | none => true
  | some l => match last.2 with
    | none => true
    | some h => decide (l ≤ h + 1)
def laterM : Option Int → Option Int → Option Int
  | some a, some b => some (if b > a then b else a)
  | _, _ => none
theorem later_l : ∀ a b, hiLe a (laterM a b)
  | none, none => trivial
  | none, some _ => trivial
  | some _, none => trivial
  | some a, some b => by
    show a ≤ if b > a then b else a
    split <;> omega
theorem later_r : ∀ a b, hiLe b (laterM a b)
  | none, none => trivial
  | none, some _ => trivial
  | some _, none => trivial
  | some a, some b => by
    show b ≤ if b > a then b else a
    split <;> omega
/-- what holds between two turns of the gathering -/
structure GI (pre told : List Sn) : Prop where
  some_ : pre ≠ [] → told ≠ []
  cov : ∀ s ∈ pre, ∃ t ∈ told, loLe t.1 s.1 ∧ hiLe s.2 t.2
  first : ∀ f r, told = f :: r → ∀ s ∈ pre, loLe f.1 s.1
  last : ∀ i l, told = i ++ [l] → (∀ s ∈ pre, hiLe s.2 l.2) ∧ ∃ s ∈ pre, s.1 = l.1
theorem GI.nil : GI [] [] := ⟨fun h => absurd rfl h, fun s h => (by cases h), fun f r h => (by cases h), fun i l h => (by cases i <;> cases h)⟩
theorem snoc_inj {α : Type} {i j : List α} {a b : α} (h : i ++ [a] = j ++ [b]) : i = j ∧ a = b := by
  have := List.append_inj' h rfl
  exact ⟨this.1, by simpa using this.2⟩
theorem GI.start {y : Sn} : GI [y] [y] := ⟨fun _ h => (by cases h), fun s hs => ⟨y, by simp, by
    have : s = y := by simpa using hs
    subst this
    exact ⟨loLe_refl _, hiLe_refl _⟩⟩,
  fun f r h s hs => by
    have h1 : y = f := by injection h
    have : s = y := by simpa using hs
    subst this h1
    exact loLe_refl _,
  fun i l h => by
    have q := snoc_inj (i := []) (a := y) (j := i) (b := l) h
    refine ⟨fun s hs => ?_, y, by simp, by rw [q.2]⟩
    have : s = y := by simpa using hs
    rw [this, q.2]
    exact hiLe_refl _⟩
theorem GI.join {pre i : List Sn} {l y : Sn} (g : GI pre (i ++ [l])) (srt : ∀ s ∈ pre, loLe s.1 y.1) : GI (pre ++ [y]) (i ++ [(l.1, laterM l.2 y.2)]) := by
  have ly : loLe l.1 y.1 := by
    obtain ⟨s, hs, e⟩ := (g.last i l rfl).2
    rw [← e]
    exact srt s hs
  refine ⟨fun _ h => by simp at h, fun s hs => ?_, fun f r h s hs => ?_, fun i' l' h => ?_⟩
  · rcases List.mem_append.mp hs with h | h
    · obtain ⟨t, ht, a, b⟩ := g.cov s h
      rcases List.mem_append.mp ht with h' | h'
      · exact ⟨t, List.mem_append.mpr (.inl h'), a, b⟩
      · have : t = l := by simpa using h'
        subst this
        exact ⟨_, List.mem_append.mpr (.inr (List.mem_singleton.mpr rfl)), a, hiLe_trans b (later_l _ _)⟩
    · have : s = y := by simpa using h
      subst this
      exact ⟨_, List.mem_append.mpr (.inr (List.mem_singleton.mpr rfl)), ly, later_r _ _⟩
  · have fl : ∀ s ∈ pre, loLe f.1 s.1 := by
      cases i with
      | nil =>
        have e : (l.1, laterM l.2 y.2) = f := by injection h
        intro s hs
        have q := g.first l [] rfl s hs
        rw [← e]
        exact q
      | cons a i' =>
        have e : a = f := by injection h
        intro s hs
        rw [← e]
        exact g.first a (i' ++ [l]) rfl s hs
    rcases List.mem_append.mp hs with h' | h'
    · exact fl s h'
    · have : s = y := by simpa using h'
      subst this
      obtain ⟨s0, hs0, _⟩ := (g.last i l rfl).2
      exact loLe_trans (fl s0 hs0) (srt s0 hs0)
  · obtain ⟨_, e⟩ := snoc_inj h
    subst e
    refine ⟨fun s hs => ?_, ?_⟩
    · rcases List.mem_append.mp hs with h' | h'
      · exact hiLe_trans ((g.last i l rfl).1 s h') (later_l _ _)
      · have : s = y := by simpa using h'
        subst this
        exact later_r _ _
    · obtain ⟨s0, hs0, e0⟩ := (g.last i l rfl).2
      exact ⟨s0, List.mem_append.mpr (.inl hs0), e0⟩
theorem GI.apart {pre i : List Sn} {l y : Sn} (g : GI pre (i ++ [l])) (srt : ∀ s ∈ pre, loLe s.1 y.1) (fy : Full y) (hj : joinsB l y.1 = false) : GI (pre ++ [y]) (i ++ [l] ++ [y]) := by
  refine ⟨fun _ h => by simp at h, fun s hs => ?_, fun f r h s hs => ?_, fun i' l' h => ?_⟩
  · rcases List.mem_append.mp hs with h | h
    · obtain ⟨t, ht, a⟩ := g.cov s h
      exact ⟨t, List.mem_append.mpr (.inl ht), a⟩
    · have : s = y := by simpa using h
      subst this
      exact ⟨_, List.mem_append.mpr (.inr (List.mem_singleton.mpr rfl)), loLe_refl _, hiLe_refl _⟩
  · have fl : ∀ s ∈ pre, loLe f.1 s.1 := by
      cases i with
      | nil =>
        have e : l = f := by injection h
        intro s hs
        rw [← e]
        exact g.first l [] rfl s hs
      | cons a i' =>
        have e : a = f := by injection h
        intro s hs
        rw [← e]
        exact g.first a (i' ++ [l]) rfl s hs
    rcases List.mem_append.mp hs with h' | h'
    · exact fl s h'
    · have : s = y := by simpa using h'
      subst this
      obtain ⟨s0, hs0, _⟩ := (g.last i l rfl).2
      exact loLe_trans (fl s0 hs0) (srt s0 hs0)
  · obtain ⟨_, e⟩ := snoc_inj h
    subst e
    refine ⟨fun s hs => ?_, y, List.mem_append.mpr (.inr (List.mem_singleton.mpr rfl)), rfl⟩
    rcases List.mem_append.mp hs with h' | h'
    · have q := (g.last i l rfl).1 s h'
      refine hiLe_trans q ?_
      unfold joinsB at hj
      obtain ⟨llo, lhi⟩ := l
      obtain ⟨ylo, yhi⟩ := y
      cases ylo with
      | none => cases hj
      | some yl =>
        cases lhi with
        | none => cases hj
        | some lh =>
          have hj := of_decide_eq_false hj
          cases yhi with
          | none => trivial
          | some yh =>
            have z : yl ≤ yh := fy yl yh rfl rfl
            show lh ≤ yh
            omega
    · have : s = y := by simpa using h'
      subst this
      exact hiLe_refl _
/-- what is told of the gathered list -/
structure Gath (ss told : List Sn) : Prop where
  some_ : ss ≠ [] → told ≠ []
  cov : ∀ s ∈ ss, ∀ n, In s n → ∃ t ∈ told, In t n
  first : ∀ f r, told = f :: r → ∀ s ∈ ss, ∀ n, In s n → loOk f.1 n
  last : ∀ i l, told = i ++ [l] → ∀ s ∈ ss, ∀ n, In s n → hiOk l.2 n
theorem GI.gath {pre told ss : List Sn} (g : GI pre told) (hp : ∀ s, s ∈ ss → s ∈ pre) : Gath ss told where
  some_ := fun h => g.some_ fun e => by
    cases ss with
    | nil => exact h rfl
    | cons a r =>
      have := hp a (by simp)
      rw [e] at this
      cases this
  cov := fun s hs n hn => by
    obtain ⟨t, ht, a, b⟩ := g.cov s (hp s hs)
    exact ⟨t, ht, loOk_mono a hn.1, hiOk_mono b hn.2⟩
  first := fun f r e s hs n hn => loOk_mono (g.first f r e s (hp s hs)) hn.1
  last := fun i l e s hs n hn => hiOk_mono ((g.last i l e).1 s (hp s hs)) hn.2

/-! ## meeting -/
def maxLo : Option Int → Option Int → Option Int
  | none, b => b
  | some a, none => some a
  | some a, some b => if b > a then some b else some a
def minHi : Option Int → Option Int → Option Int
  | none, b => b
  | some a, none => some a
  | some a, some b => if b < a then some b else some a
def meetM (s t : Sn) : Sn := (maxLo s.1 t.1, minHi s.2 t.2)
theorem maxLo_ok (a b : Option Int) (n : Int) : loOk (maxLo a b) n ↔ loOk a n ∧ loOk b n := by
  cases a with
  | none => exact ⟨fun h => ⟨trivial, h⟩, fun h => h.2⟩
  | some a =>
    cases b with
    | none => exact ⟨fun h => ⟨h, trivial⟩, fun h => h.1⟩
    | some b =>
      show loOk (if b > a then some b else some a) n ↔ a ≤ n ∧ b ≤ n
      split
      · show b ≤ n ↔ a ≤ n ∧ b ≤ n
        omega
      · show a ≤ n ↔ a ≤ n ∧ b ≤ n
        omega
theorem minHi_ok (a b : Option Int) (n : Int) : hiOk (minHi a b) n ↔ hiOk a n ∧ hiOk b n := by
  cases a with
  | none => exact ⟨fun h => ⟨trivial, h⟩, fun h => h.2⟩
  | some a =>
    cases b with
    | none => exact ⟨fun h => ⟨h, trivial⟩, fun h => h.1⟩
    | some b =>
      show hiOk (if b < a then some b else some a) n ↔ n ≤ a ∧ n ≤ b
      split
      · show n ≤ b ↔ n ≤ a ∧ n ≤ b
        omega
      · show n ≤ a ↔ n ≤ a ∧ n ≤ b
        omega
theorem meet_in (s t : Sn) (n : Int) : In (meetM s t) n ↔ In s n ∧ In t n := by
  unfold In meetM
  rw [maxLo_ok, minHi_ok]
  constructor
  · rintro ⟨⟨a, b⟩, c, d⟩; exact ⟨⟨a, c⟩, b, d⟩
  · rintro ⟨⟨a, b⟩, c, d⟩; exact ⟨⟨a, c⟩, b, d⟩
/-- all parts of one kind and turn -/
inductive Kd where | at | step
  deriving DecidableEq
abbrev Pt := Kd × Nat × Sn
def commonM (b : Sn) (cl : List Pt) (k : Kd) (t : Nat) : Sn := cl.foldl (fun f p => if p.1 = k ∧ p.2.1 = t then meetM f p.2.2 else f) b
theorem common_in (k : Kd) (t : Nat) (n : Int) : ∀ (cl : List Pt) (b : Sn), In (commonM b cl k t) n ↔ In b n ∧ ∀ p ∈ cl, p.1 = k → p.2.1 = t → In p.2.2 n
  | [], b => by simp [commonM]
  | p :: r, b => by
    have ih := common_in k t n r (if p.1 = k ∧ p.2.1 = t then meetM b p.2.2 else b)
    have e : commonM b (p :: r) k t = commonM (if p.1 = k ∧ p.2.1 = t then meetM b p.2.2 else b) r k t := rfl
    rw [e, ih]
    by_cases h : p.1 = k ∧ p.2.1 = t
    · rw [if_pos h, meet_in]
      constructor
      · rintro ⟨⟨a, b⟩, c⟩
        refine ⟨a, fun q hq h1 h2 => ?_⟩
        rcases List.mem_cons.mp hq with z | z
        · rw [z]; exact b
        · exact c q z h1 h2
      · rintro ⟨a, b⟩
        exact ⟨⟨a, b p (by simp) h.1 h.2⟩, fun q hq => b q (List.mem_cons.mpr (.inr hq))⟩
    · rw [if_neg h]
      constructor
      · rintro ⟨a, b⟩
        refine ⟨a, fun q hq h1 h2 => ?_⟩
        rcases List.mem_cons.mp hq with z | z
        · rw [z] at h1 h2; exact absurd ⟨h1, h2⟩ h
        · exact b q z h1 h2
      · rintro ⟨a, b⟩
        exact ⟨a, fun q hq => b q (List.mem_cons.mpr (.inr hq))⟩
theorem meet_some {s t : Sn} (h1 : ∃ l, s.1 = some l) (h2 : ∃ u, s.2 = some u) : (∃ l, (meetM s t).1 = some l) ∧ ∃ u, (meetM s t).2 = some u := by
  obtain ⟨l, e1⟩ := h1
  obtain ⟨u, e2⟩ := h2
  unfold meetM
  rw [e1, e2]
  constructor
  · cases t.1 with
    | none => exact ⟨_, rfl⟩
    | some b =>
      show ∃ l', (if b > l then some b else some l) = some l'
      split <;> exact ⟨_, rfl⟩
  · cases t.2 with
    | none => exact ⟨_, rfl⟩
    | some b =>
      show ∃ l', (if b < u then some b else some u) = some l'
      split <;> exact ⟨_, rfl⟩
theorem common_some (k : Kd) (t : Nat) : ∀ (cl : List Pt) (b : Sn), (∃ l, b.1 = some l) → (∃ u, b.2 = some u) → (∃ l, (commonM b cl k t).1 = some l) ∧ ∃ u, (commonM b cl k t).2 = some u
  | [], b, h1, h2 => ⟨h1, h2⟩
  | p :: r, b, h1, h2 => by
    have e : commonM b (p :: r) k t = commonM (if p.1 = k ∧ p.2.1 = t then meetM b p.2.2 else b) r k t := rfl
    rw [e]
    by_cases h : p.1 = k ∧ p.2.1 = t
    · rw [if_pos h]
      obtain ⟨a, b'⟩ := meet_some (t := p.2.2) h1 h2
      exact common_some k t r _ a b'
    · rw [if_neg h]
      exact common_some k t r _ h1 h2
theorem in_full {s : Sn} {n : Int} (h : In s n) : Full s := by
  intro l u e1 e2
  unfold In at h
  rw [e1, e2] at h
  have a : l ≤ n := h.1
  have b : n ≤ u := h.2
  omega
end Gz
namespace Gz
/-! ## who is put aside -/
def asides : Nat → List (List Int)
  | 0 => [[]]
  | n + 1 => asides n ++ (asides n).map (· ++ [(n : Int)])
theorem asides_len : ∀ n, (asides n).length = 2 ^ n
  | 0 => rfl
  | n + 1 => by
    show (asides n ++ (asides n).map (· ++ [(n : Int)])).length = 2 ^ (n + 1)
    rw [List.length_append, List.length_map, asides_len n, Nat.pow_succ]
    omega
theorem asides_short : ∀ n, ∀ l ∈ asides n, l.length ≤ n
  | 0, l, h => by
    have : l = [] := by simpa [asides] using h
    rw [this]
    exact Nat.le_refl _
  | n + 1, l, h => by
    rcases List.mem_append.mp (show l ∈ asides n ++ (asides n).map (· ++ [(n : Int)]) from h) with h | h
    · exact Nat.le_succ_of_le (asides_short n l h)
    · obtain ⟨k, hk, rfl⟩ := List.mem_map.mp h
      have := asides_short n k hk
      rw [List.length_append, List.length_singleton]
      omega
/-- the eyes for which p holds, rising -/
def pick (p : Nat → Bool) : Nat → List Int
  | 0 => []
  | n + 1 => if p n then pick p n ++ [(n : Int)] else pick p n
theorem pick_mem (p : Nat → Bool) : ∀ n, pick p n ∈ asides n
  | 0 => by simp [pick, asides]
  | n + 1 => by
    show (if p n then pick p n ++ [(n : Int)] else pick p n) ∈ asides n ++ (asides n).map (· ++ [(n : Int)])
    split
    · exact List.mem_append.mpr (.inr (List.mem_map.mpr ⟨_, pick_mem p n, rfl⟩))
    · exact List.mem_append.mpr (.inl (pick_mem p n))
theorem mem_pick {p : Nat → Bool} {x : Int} : ∀ {n}, x ∈ pick p n ↔ ∃ k, k < n ∧ p k = true ∧ x = (k : Int)
  | 0 => by simp [pick]
  | n + 1 => by
    have ih := mem_pick (p := p) (x := x) (n := n)
    show x ∈ (if p n then pick p n ++ [(n : Int)] else pick p n) ↔ _
    by_cases h : p n = true
    · rw [if_pos h, List.mem_append, ih]
      constructor
      · rintro (⟨k, a, b, c⟩ | e)
        · exact ⟨k, by omega, b, c⟩
        · exact ⟨n, by omega, h, by simpa using e⟩
      · rintro ⟨k, a, b, c⟩
        by_cases e : k = n
        · exact .inr (by rw [c, e]; simp)
        · exact .inl ⟨k, by omega, b, c⟩
    · rw [if_neg h, ih]
      constructor
      · rintro ⟨k, a, b, c⟩
        exact ⟨k, by omega, b, c⟩
      · rintro ⟨k, a, b, c⟩
        by_cases e : k = n
        · rw [e] at b
          exact absurd b h
        · exact ⟨k, by omega, b, c⟩
/-- the liars that the law draws -/
def lyE (first eyes most : Nat) (e : Nat) : Bool := decide ((e + first) % eyes < most)
theorem ly_count : ∀ eyes, eyes ≤ 7 → ∀ first, first < eyes → ∀ most, most ≤ eyes → (pick (lyE first eyes most) eyes).length = most := by
  have h : ∀ eyes : Fin 8, ∀ first : Fin 8, first.1 < eyes.1 → ∀ most : Fin 8, most.1 ≤ eyes.1 → (pick (lyE first.1 eyes.1 most.1) eyes.1).length = most.1 := by decide +kernel
  intro eyes h7 first hf most hm
  exact h ⟨eyes, by omega⟩ ⟨first, by omega⟩ hf ⟨most, by omega⟩ hm
/-- fewer than the members of a list that they are drawn from -/
theorem nodup_sub {α : Type} [DecidableEq α] : ∀ {a b : List α}, a.Nodup → (∀ x ∈ a, x ∈ b) → a.length ≤ b.length
  | [], b, _, _ => Nat.zero_le _
  | x :: a, b, hn, hs => by
    obtain ⟨h1, h2⟩ := List.nodup_cons.mp hn
    have ih := nodup_sub (a := a) (b := b.erase x) h2 fun y hy => by
      have hne : y ≠ x := fun e => h1 (e ▸ hy)
      exact (List.mem_erase_of_ne hne).mpr (hs y (List.mem_cons_of_mem _ hy))
    have hx : x ∈ b := hs x List.mem_cons_self
    have hp : 0 < b.length := List.length_pos_of_mem hx
    rw [List.length_erase_of_mem hx] at ih
    rw [List.length_cons]
    omega

/-! ## the search -/
abbrev EM := Option Int × Mk
/-- a course that fits when some eyes (at most so many, those put aside among them) may lie -/
def Wit (st : Sts) (most : Nat) (ms : List EM) (as : List Int) : Prop :=
  ∃ (c : List Int) (F : List Int), Steps st c ∧ F.length ≤ most ∧ as.Nodup ∧ (∀ a ∈ as, a ∈ F) ∧ ∀ p ∈ ms, (∀ i, p.1 = some i → i ∉ F) → Held c p.2
theorem Wit.few {st : Sts} {most : Nat} {ms : List EM} {as : List Int} (h : Wit st most ms as) : as.length ≤ most := by
  obtain ⟨c, F, _, h1, h2, h3, _⟩ := h
  exact Nat.le_trans (nodup_sub h2 h3) h1
def leftM (ms : List EM) (as : List Int) : List EM := ms.filter fun p => match p.1 with | none => true | some i => !as.contains i
theorem mem_left {ms : List EM} {as : List Int} {p : EM} : p ∈ leftM ms as ↔ p ∈ ms ∧ ∀ i, p.1 = some i → i ∉ as := by
  unfold leftM
  rw [List.mem_filter]
  obtain ⟨e, m⟩ := p
  cases e with
  | none => simp
  | some i => simp
/-- one of two that clash lies -/
theorem Wit.go {st : Sts} {most : Nat} {ms : List EM} {as : List Int} {p q : EM} (h : Wit st most ms as) (hb : ∀ p ∈ ms, p.2.1 ≤ st.length) (hp : p ∈ leftM ms as) (hq : q ∈ leftM ms as) (hc : clashB st p.2 q.2 = true) :
    (∃ i, p.1 = some i ∧ Wit st most ms (as ++ [i])) ∨ ∃ i, q.1 = some i ∧ Wit st most ms (as ++ [i]) := by
  obtain ⟨c, F, h1, h2, h3, h4, h5⟩ := h
  obtain ⟨hp1, hp2⟩ := mem_left.mp hp
  obtain ⟨hq1, hq2⟩ := mem_left.mp hq
  have go : ∀ r : EM, r ∈ ms → (∀ i, r.1 = some i → i ∉ as) → ¬ Held c r.2 → ∃ i, r.1 = some i ∧ Wit st most ms (as ++ [i]) := by
    intro r hr hn hh
    have : ¬ ∀ i, r.1 = some i → i ∉ F := fun z => hh (h5 r hr z)
    cases e : r.1 with
    | none => exact absurd (fun i z => by rw [e] at z; cases z) this
    | some i =>
      have hiF : i ∈ F := by
        refine Classical.byContradiction fun z => this fun j hj => ?_
        rw [e] at hj
        cases hj
        exact z
      refine ⟨i, rfl, c, F, h1, h2, ?_, ?_, h5⟩
      · refine List.nodup_append.mpr ⟨h3, by simp, ?_⟩
        intro a ha b hb2 e2
        have hbi : b = i := by simpa using hb2
        rw [e2, hbi] at ha
        exact hn i e ha
      · intro a ha
        rcases List.mem_append.mp ha with z | z
        · exact h4 a z
        · have : a = i := by simpa using z
          rw [this]
          exact hiF
  by_cases a : Held c p.2
  · by_cases b : Held c q.2
    · have := held_noclash h1 a b (hb p hp1) (hb q hq1)
      rw [hc] at this
      cases this
    · exact .inr (go q hq1 hq2 b)
  · exact .inl (go p hp1 hp2 a)
/-- what a course that is told keeps -/
def GoodC (st : Sts) (most : Nat) (ms : List EM) (c : List Int) : Prop :=
  Steps st c ∧ ∃ F : List Int, F.length ≤ most ∧ ∀ p ∈ ms, (∀ i, p.1 = some i → i ∉ F) → Held c p.2
end Gz
namespace Gz
open PySem PySem.Spec PyProof.Rows L2
/-! ## the text by places -/
def top (i : Nat) : Stmt := PySem.Challenge.pw_gaze_k47_whole_the_truth_stays_in.main.body.getD i (.Pass ⟨0, 0, 0, 0⟩)
abbrev sRise : Stmt := top 2
abbrev sClash : Stmt := top 3
abbrev sClashing : Stmt := top 4
abbrev sRoomAt : Stmt := top 5
abbrev sTube : Stmt := top 6
abbrev sCourseIn : Stmt := top 7
abbrev sHolds : Stmt := top 14
abbrev sMeet : Stmt := top 15
abbrev sLoRank : Stmt := top 16
abbrev sJoins : Stmt := top 17
abbrev sLaterEnd : Stmt := top 18
abbrev sGathered : Stmt := top 19
abbrev sHull : Stmt := top 20
abbrev sAskParts : Stmt := top 22
abbrev sInCommon : Stmt := top 23
abbrev sPaces : Stmt := top 24
abbrev sWanted : Stmt := top 25
abbrev sLiars : Stmt := top 27
abbrev sFits : Stmt := top 28
abbrev sEyesAside : Stmt := top 29
abbrev sMarksWithout : Stmt := top 30
abbrev sAllTubes : Stmt := top 32
abbrev sPlaces : Stmt := top 33
abbrev sStrips : Stmt := top 34
abbrev sInit : Stmt := inClass (top 38) 0
abbrev sHas : Stmt := inClass (top 38) 1
abbrev sTell : Stmt := inClass (top 38) 2
abbrev sTellings : Stmt := inClass (top 38) 5
abbrev sMarksOf : Stmt := top 40
abbrev sSearchOn : Stmt := top 41
abbrev sAsk : Stmt := top 42
abbrev sPick : Stmt := top 44
abbrev sWide : Stmt := top 45
abbrev sShape : Stmt := top 46
abbrev sCourse : Stmt := top 47
abbrev sWord : Stmt := top 48
abbrev sBoard : Stmt := top 49
abbrev sIn : Stmt := top 50
abbrev sWhole : Stmt := top 51
abbrev sLLiars : Stmt := top 52
abbrev sMet : Stmt := top 53
abbrev sWalked : Stmt := top 54
abbrev sSame : Stmt := top 55
abbrev sMostly : Stmt := top 56
abbrev sTrueParts : Stmt := top 57
abbrev sHas2 : Stmt := top 58
abbrev sStays : Stmt := top 59
abbrev sLaw : Stmt := top 60
theorem scRise : FnScope ["steps", "one", "other", "k"] ["steps", "one", "other"] (defScope sRise) := FnScope.mk rfl rfl rfl (by decide +kernel) rfl (by decide +kernel) (by decide +kernel)
theorem scClash : FnScope ["steps", "one", "other", "high", "low"] ["steps", "one", "other"] (defScope sClash) := FnScope.mk rfl rfl rfl (by decide +kernel) rfl (by decide +kernel) (by decide +kernel)
theorem scClashing : FnScope ["steps", "marks", "i", "j"] ["steps", "marks"] (defScope sClashing) := FnScope.mk rfl rfl rfl (by decide +kernel) rfl (by decide +kernel) (by decide +kernel)
theorem scRoomAt : FnScope ["steps", "marks", "turn", "lows", "highs", "at", "span"] ["steps", "marks", "turn"] (defScope sRoomAt) := FnScope.mk rfl rfl rfl (by decide +kernel) rfl (by decide +kernel) (by decide +kernel)
theorem scTube : FnScope ["steps", "marks", "turn"] ["steps", "marks"] (defScope sTube) := FnScope.mk rfl rfl rfl (by decide +kernel) rfl (by decide +kernel) (by decide +kernel)
theorem scCourseIn : FnScope ["steps", "marks", "rooms", "lo", "hi", "turn"] ["steps", "marks"] (defScope sCourseIn) := FnScope.mk rfl rfl rfl (by decide +kernel) rfl (by decide +kernel) (by decide +kernel)
theorem scHolds : FnScope ["one", "number"] ["one", "number"] (defScope sHolds) := FnScope.mk rfl rfl rfl (by decide +kernel) rfl (by decide +kernel) (by decide +kernel)
theorem scMeet : FnScope ["one", "other", "lo", "hi"] ["one", "other"] (defScope sMeet) := FnScope.mk rfl rfl rfl (by decide +kernel) rfl (by decide +kernel) (by decide +kernel)
theorem scLoRank : FnScope ["one"] ["one"] (defScope sLoRank) := FnScope.mk rfl rfl rfl (by decide +kernel) rfl (by decide +kernel) (by decide +kernel)
theorem scJoins : FnScope ["last", "lo"] ["last", "lo"] (defScope sJoins) := FnScope.mk rfl rfl rfl (by decide +kernel) rfl (by decide +kernel) (by decide +kernel)
theorem scLaterEnd : FnScope ["one", "other"] ["one", "other"] (defScope sLaterEnd) := FnScope.mk rfl rfl rfl (by decide +kernel) rfl (by decide +kernel) (by decide +kernel)
theorem scGathered : FnScope ["some", "told", "lo", "hi"] ["some"] (defScope sGathered) := FnScope.mk rfl rfl rfl (by decide +kernel) rfl (by decide +kernel) (by decide +kernel)
theorem scHull : FnScope ["some", "told"] ["some"] (defScope sHull) := FnScope.mk rfl rfl rfl (by decide +kernel) rfl (by decide +kernel) (by decide +kernel)
theorem scAskParts : FnScope ["board", "claim", "kind", "turn", "span", "many"] ["board", "claim"] (defScope sAskParts) := FnScope.mk rfl rfl rfl (by decide +kernel) rfl (by decide +kernel) (by decide +kernel)
theorem scInCommon : FnScope ["begin", "claim", "sort", "turn", "found", "kind", "at", "span"] ["begin", "claim", "sort", "turn"] (defScope sInCommon) := FnScope.mk rfl rfl rfl (by decide +kernel) rfl (by decide +kernel) (by decide +kernel)
theorem scPaces : FnScope ["board", "claim", "own", "turn"] ["board", "claim"] (defScope sPaces) := FnScope.mk rfl rfl rfl (by decide +kernel) rfl (by decide +kernel) (by decide +kernel)
theorem scWanted : FnScope ["board", "claim", "turn"] ["board", "claim"] (defScope sWanted) := FnScope.mk rfl rfl rfl (by decide +kernel) rfl (by decide +kernel) (by decide +kernel)
theorem scLiars : FnScope ["board", "course", "found", "eye", "turn", "span"] ["board", "course"] (defScope sLiars) := FnScope.mk rfl rfl rfl (by decide +kernel) rfl (by decide +kernel) (by decide +kernel)
theorem scFits : FnScope ["board", "course", "own", "turn"] ["board", "course"] (defScope sFits) := FnScope.mk rfl rfl rfl (by decide +kernel) rfl (by decide +kernel) (by decide +kernel)
theorem scEyesAside : FnScope ["many", "found", "eye", "some"] ["many"] (defScope sEyesAside) := FnScope.mk rfl rfl rfl (by decide +kernel) rfl (by decide +kernel) (by decide +kernel)
theorem scMarksWithout : FnScope ["board", "some", "eye", "turn", "span"] ["board", "some"] (defScope sMarksWithout) := FnScope.mk rfl rfl rfl (by decide +kernel) rfl (by decide +kernel) (by decide +kernel)
theorem scAllTubes : FnScope ["board", "steps", "found", "some", "rooms"] ["board"] (defScope sAllTubes) := FnScope.mk rfl rfl rfl (by decide +kernel) rfl (by decide +kernel) (by decide +kernel)
theorem scPlaces : FnScope ["board", "turn", "rooms"] ["board", "turn"] (defScope sPlaces) := FnScope.mk rfl rfl rfl (by decide +kernel) rfl (by decide +kernel) (by decide +kernel)
theorem scStrips : FnScope ["board", "some", "found", "turn", "rooms"] ["board"] (defScope sStrips) := FnScope.mk rfl rfl rfl (by decide +kernel) rfl (by decide +kernel) (by decide +kernel)
theorem scInit : FnScope ["self", "eyes", "turns", "up", "down", "most"] ["self", "eyes", "turns", "up", "down", "most"] (defScope sInit) := FnScope.mk rfl rfl rfl (by decide +kernel) rfl (by decide +kernel) (by decide +kernel)
theorem scHas : FnScope ["self", "eye", "turn"] ["self", "eye", "turn"] (defScope sHas) := FnScope.mk rfl rfl rfl (by decide +kernel) rfl (by decide +kernel) (by decide +kernel)
theorem scTell : FnScope ["self", "eye", "turn", "lo", "hi"] ["self", "eye", "turn", "lo", "hi"] (defScope sTell) := FnScope.mk rfl rfl rfl (by decide +kernel) rfl (by decide +kernel) (by decide +kernel)
theorem scTellings : FnScope ["self", "spot"] ["self"] (defScope sTellings) := FnScope.mk rfl rfl rfl (by decide +kernel) rfl (by decide +kernel) (by decide +kernel)
theorem scMarksOf : FnScope ["board", "goals", "marks", "turn", "eye", "span"] ["board", "goals"] (defScope sMarksOf) := FnScope.mk rfl rfl rfl (by decide +kernel) rfl (by decide +kernel) (by decide +kernel)
theorem scSearchOn : FnScope ["most", "steps", "marks", "aside", "left", "plain", "pair", "one", "early", "other", "late", "first", "word", "second", "eye", "mark"] ["most", "steps", "marks", "aside"] (defScope sSearchOn) := FnScope.mk rfl rfl rfl (by decide +kernel) rfl (by decide +kernel) (by decide +kernel)
theorem scAsk : FnScope ["board", "claim", "steps", "goals"] ["board", "claim"] (defScope sAsk) := FnScope.mk rfl rfl rfl (by decide +kernel) rfl (by decide +kernel) (by decide +kernel)
theorem scPick : FnScope ["_law_script", "_law_k", "_law_many", "_law_cell"] ["_law_script", "_law_k", "_law_many"] (defScope sPick) := FnScope.mk rfl rfl rfl (by decide +kernel) rfl (by decide +kernel) (by decide +kernel)
theorem scWide : FnScope ["_law_script", "_law_k", "_law_many", "_law_cell"] ["_law_script", "_law_k", "_law_many"] (defScope sWide) := FnScope.mk rfl rfl rfl (by decide +kernel) rfl (by decide +kernel) (by decide +kernel)
theorem scShape : FnScope ["_law_script", "_law_way", "_law_eyes", "_law_turns", "_law_most", "_law_far", "_law_up", "_law_down"] ["_law_script"] (defScope sShape) := FnScope.mk rfl rfl rfl (by decide +kernel) rfl (by decide +kernel) (by decide +kernel)
theorem scCourse : FnScope ["_law_script", "_law_shape_here", "_law_size", "_law_number", "_law_course_here", "_law_k"] ["_law_script", "_law_shape_here"] (defScope sCourse) := FnScope.mk rfl rfl rfl (by decide +kernel) rfl (by decide +kernel) (by decide +kernel)
theorem scWord : FnScope ["_law_script", "_law_k", "_law_far", "_law_number", "_law_false", "_law_by", "_law_lo", "_law_hi", "_law_end"] ["_law_script", "_law_k", "_law_far", "_law_number", "_law_false"] (defScope sWord) := FnScope.mk rfl rfl rfl (by decide +kernel) rfl (by decide +kernel) (by decide +kernel)
theorem scBoard : FnScope ["_law_script", "_law_shape_here", "_law_told", "_law_board_here", "_law_spots", "_law_eye", "_law_turn"] ["_law_script", "_law_shape_here", "_law_told"] (defScope sBoard) := FnScope.mk rfl rfl rfl (by decide +kernel) rfl (by decide +kernel) (by decide +kernel)
theorem scIn : FnScope ["_law_span", "_law_number"] ["_law_span", "_law_number"] (defScope sIn) := FnScope.mk rfl rfl rfl (by decide +kernel) rfl (by decide +kernel) (by decide +kernel)
theorem scWhole : FnScope ["_law_found"] ["_law_found"] (defScope sWhole) := FnScope.mk rfl rfl rfl (by decide +kernel) rfl (by decide +kernel) (by decide +kernel)
theorem scLLiars : FnScope ["_law_told", "_law_course_here", "_law_eyes", "_law_eye", "_law_turn"] ["_law_told", "_law_course_here"] (defScope sLLiars) := FnScope.mk rfl rfl rfl (by decide +kernel) rfl (by decide +kernel) (by decide +kernel)
theorem scMet : FnScope ["_law_course_here", "_law_claim", "_law_kind", "_law_turn", "_law_span", "_law_number"] ["_law_course_here", "_law_claim"] (defScope sMet) := FnScope.mk rfl rfl rfl (by decide +kernel) rfl (by decide +kernel) (by decide +kernel)
theorem scWalked : FnScope ["_law_found", "_law_shape_here", "_law_told", "_law_claim", "_law_number", "_law_k"] ["_law_found", "_law_shape_here", "_law_told", "_law_claim"] (defScope sWalked) := FnScope.mk rfl rfl rfl (by decide +kernel) rfl (by decide +kernel) (by decide +kernel)
theorem scSame : FnScope ["_law_board_here", "_law_told", "_law_spots", "_law_spot"] ["_law_board_here", "_law_told"] (defScope sSame) := FnScope.mk rfl rfl rfl (by decide +kernel) rfl (by decide +kernel) (by decide +kernel)
theorem scMostly : FnScope ["_law_script", "_law_shape_here", "_law_course_here", "_law_first", "_law_told", "_law_dense", "_law_limit", "_law_eye", "_law_false", "_law_turn", "_law_k", "_law_number"] ["_law_script", "_law_shape_here", "_law_course_here"] (defScope sMostly) := FnScope.mk rfl rfl rfl (by decide +kernel) rfl (by decide +kernel) (by decide +kernel)
theorem scTrueParts : FnScope ["_law_script", "_law_shape_here", "_law_course_here", "_law_parts", "_law_j", "_law_k", "_law_turn", "_law_kind", "_law_number"] ["_law_script", "_law_shape_here", "_law_course_here"] (defScope sTrueParts) := FnScope.mk rfl rfl rfl (by decide +kernel) rfl (by decide +kernel) (by decide +kernel)
theorem scHas2 : FnScope ["_law_some", "_law_number", "_law_span"] ["_law_some", "_law_number"] (defScope sHas2) := FnScope.mk rfl rfl rfl (by decide +kernel) rfl (by decide +kernel) (by decide +kernel)
theorem scStays : FnScope ["_law_board_here", "_law_shape_here", "_law_told", "_law_course_here", "_law_claim", "_law_turn", "_law_rows", "_law_handed", "_law_parts", "_law_answer", "_law_k", "_law_span"] ["_law_board_here", "_law_shape_here", "_law_told", "_law_course_here", "_law_claim", "_law_turn"] (defScope sStays) := FnScope.mk rfl rfl rfl (by decide +kernel) rfl (by decide +kernel) (by decide +kernel)
theorem scLaw : FnScope ["_law_script", "_law_shape_here", "_law_course_here", "_law_told", "_law_claim", "_law_board_here", "_law_turn", "_law_spot"] ["_law_script"] (defScope sLaw) := FnScope.mk rfl rfl rfl (by decide +kernel) rfl (by decide +kernel) (by decide +kernel)
end Gz
namespace Gz
open PySem PySem.Spec PyProof.Rows L2
/-! ## data in the heap -/
def vO : Option Int → V
  | none => .non
  | some i => .int i
theorem vO_inj : ∀ {a b : Option Int}, vO a = vO b → a = b
  | none, none, _ => rfl
  | none, some _, h => (by cases h)
  | some _, none, h => (by cases h)
  | some a, some b, h => (by injection h with e; rw [e])
def SpanAt (H : Hp) (v : V) (s : Sn) : Prop := ∃ a, v = .ref a ∧ H a = some (.tup [vO s.1, vO s.2])
def MarkAt (H : Hp) (v : V) (m : Mk) : Prop := ∃ a b, v = .ref a ∧ H a = some (.tup [.int (m.1 : Int), .ref b]) ∧ H b = some (.tup [vO m.2.1, vO m.2.2])
def StepAt (H : Hp) (v : V) (p : Int × Int) : Prop := ∃ a, v = .ref a ∧ H a = some (.tup [.int p.1, .int p.2])
def IntAt (_ : Hp) (v : V) (i : Int) : Prop := v = .int i
def LstAt {α : Type} (R : Hp → V → α → Prop) (H : Hp) (v : V) (xs : List α) : Prop := ∃ a vs, v = .ref a ∧ H a = some (.lst vs) ∧ Paired (R H) vs xs
def Mono {α : Type} (R : Hp → V → α → Prop) : Prop := ∀ (H H' : Hp) (v : V) (x : α), Same H H' → R H v x → R H' v x
theorem mono_span : Mono SpanAt := fun _ _ _ _ s ⟨a, e, h⟩ => ⟨a, e, s _ _ h⟩
theorem mono_mark : Mono MarkAt := fun _ _ _ _ s ⟨a, b, e, h, h'⟩ => ⟨a, b, e, s _ _ h, s _ _ h'⟩
theorem mono_step : Mono StepAt := fun _ _ _ _ s ⟨a, e, h⟩ => ⟨a, e, s _ _ h⟩
theorem mono_int : Mono IntAt := fun _ _ _ _ _ h => h
theorem paired_mono {α : Type} {R : Hp → V → α → Prop} (m : Mono R) {H H' : Hp} (s : Same H H') : ∀ {vs : List V} {xs : List α}, Paired (R H) vs xs → Paired (R H') vs xs
  | _, _, .nil => .nil
  | _, _, .cons r t => .cons (m _ _ _ _ s r) (paired_mono m s t)
theorem mono_lst {α : Type} {R : Hp → V → α → Prop} (m : Mono R) : Mono (LstAt R) := fun _ _ _ _ s ⟨a, vs, e, h, p⟩ => ⟨a, vs, e, s _ _ h, paired_mono m s p⟩
theorem paired_at {α β : Type} {F : α → β → Prop} : ∀ {vs : List α} {xs : List β} {i : Nat} {x : β}, Paired F vs xs → xs[i]? = some x → ∃ v, vs[i]? = some v ∧ F v x
  | _, _, _, _, .nil, h => by simp at h
  | _, _, 0, x, .cons (a := a) (b := b) r t, h => ⟨a, rfl, by
    obtain rfl : b = x := by simpa using h
    exact r⟩
  | _, _, i + 1, x, .cons r t, h => by
    obtain ⟨v, h1, h2⟩ := paired_at (i := i) (x := x) t (by simpa using h)
    exact ⟨v, by simpa using h1, h2⟩
theorem paired_atV {α β : Type} {F : α → β → Prop} : ∀ {vs : List α} {xs : List β} {i : Nat} {v : α}, Paired F vs xs → vs[i]? = some v → ∃ x, xs[i]? = some x ∧ F v x
  | _, _, _, _, .nil, h => by simp at h
  | _, _, 0, v, .cons (a := a) (b := b) r t, h => ⟨b, rfl, by
    obtain rfl : a = v := by simpa using h
    exact r⟩
  | _, _, i + 1, v, .cons r t, h => by
    obtain ⟨x, h1, h2⟩ := paired_atV (i := i) (v := v) t (by simpa using h)
    exact ⟨x, by simpa using h1, h2⟩
theorem paired_len {α β : Type} {F : α → β → Prop} : ∀ {vs : List α} {xs : List β}, Paired F vs xs → vs.length = xs.length
  | _, _, .nil => rfl
  | _, _, .cons _ t => congrArg Nat.succ (paired_len t)
theorem paired_snoc {α β : Type} {F : α → β → Prop} {v : α} {x : β} : ∀ {vs : List α} {xs : List β}, Paired F vs xs → F v x → Paired F (vs ++ [v]) (xs ++ [x])
  | _, _, .nil, h => .cons h .nil
  | _, _, .cons r t, h => .cons r (paired_snoc t h)
theorem paired_app {α β : Type} {F : α → β → Prop} : ∀ {vs ws : List α} {xs ys : List β}, Paired F vs xs → Paired F ws ys → Paired F (vs ++ ws) (xs ++ ys)
  | _, _, _, _, .nil, h => h
  | _, _, _, _, .cons r t, h => .cons r (paired_app t h)
theorem paired_ints : ∀ {vs : List V} {ns : List Int} {H : Hp}, Paired (IntAt H) vs ns → vs = ns.map V.int
  | _, _, _, .nil => rfl
  | _, _, _, .cons (a := a) (b := n) r t => by
    have e : a = V.int n := r
    rw [e, paired_ints t]
    rfl
theorem paired_ofInts {H : Hp} : ∀ ns : List Int, Paired (IntAt H) (ns.map V.int) ns
  | [] => .nil
  | n :: r => .cons rfl (paired_ofInts r)
theorem paired_split {α β : Type} {F : α → β → Prop} : ∀ {vs : List α} {xs ys : List β}, Paired F vs (xs ++ ys) → ∃ us ws, vs = us ++ ws ∧ Paired F us xs ∧ Paired F ws ys
  | vs, [], ys, h => ⟨[], vs, rfl, .nil, h⟩
  | _, x :: xs, ys, .cons (a := a) r t => by
    obtain ⟨us, ws, e, h1, h2⟩ := paired_split (xs := xs) t
    exact ⟨a :: us, ws, by rw [e]; rfl, .cons r h1, h2⟩
/-! heaps -/
theorem same_new {H : Hp} {p : Addr} (h : H p = none) (o : HO) : Same H (upd H p o) := fun b u q => by
  rw [upd_ne (ne_of_none q h)]
  exact q
/-- what was told stays where a list that was not there ahead of it is changed -/
theorem same_over {H H' : Hp} {p : Addr} (s : Same H H') (h : H p = none) (o : HO) : Same H (upd H' p o) := fun b u q => by
  rw [upd_ne (ne_of_none q h)]
  exact s _ _ q
theorem len_lt {n : Nat} (h : n ≤ 4000) : n < sizeLine := Nat.lt_of_le_of_lt h (by decide)
theorem len_le {n : Nat} (h : n ≤ 4000) : n ≤ sizeLine := Nat.le_of_lt (len_lt h)
theorem tup_at {K : PySem.W.Frag} {H : Hp} {a : Addr} {xs : List V} (h : H a = some (.tup xs)) : SqT K H a xs := .inl (.inl h)
theorem lst_at {K : PySem.W.Frag} {H : Hp} {a : Addr} {xs : List V} (h : H a = some (.lst xs)) : SqL K H a xs := .inl (.inl h)

/-! ## comprehensions that make one list out of another: the walk's answer as filterMap -/
abbrev ovr (J : It) : TI := fun _ H R => R J H
theorem tLc_of {wi : TI} {g : TG} {tt : TT} {te : TE} {ws : List Nat} {σ : L2.St} {H : Hp} {Q : VK} (h : wi σ H fun J H1 => tLc (ovr J) g tt te ws σ H1 Q) : tLc wi g tt te ws σ H Q := h
section
variable {α β : Type} {K : PySem.W.Frag} {g : TG} {tt : TT} {te : TE} {ws : List Nat} {σ : L2.St} {H1 : Hp} {Q : VK}
/-- a heap without what stands at one place -/
def hide (H : Hp) (D : Addr) : Hp := fun b => if b = D then none else H b
theorem hide_ne {H : Hp} {D b : Addr} (h : b ≠ D) : hide H D b = H b := by
  unfold hide
  rw [if_neg h]
theorem hide_upd {H : Hp} {D : Addr} {o : HO} : hide (upd H D o) D = hide H D := by
  funext b
  unfold hide upd
  by_cases h : b = D
  · rw [if_pos h, if_pos h]
  · rw [if_neg h, if_neg h, if_neg h]
theorem hide_same {H H' : Hp} {D : Addr} (s : Same H H') : Same (hide H D) (hide H' D) := fun b o q => by
  by_cases h : b = D
  · subst h
    unfold hide at q
    rw [if_pos rfl] at q
    cases q
  · rw [hide_ne h] at q ⊢
    exact s _ _ q
theorem hide_in {H : Hp} {D : Addr} : Same (hide H D) H := fun b o q => by
  by_cases h : b = D
  · subst h
    unfold hide at q
    rw [if_pos rfl] at q
    cases q
  · rw [hide_ne h] at q
    exact q
theorem hide_at {H : Hp} {D b : Addr} {o : HO} (q : H b = some o) (h : b ≠ D) : hide H D b = some o := (hide_ne h).trans q
theorem hide_old {H H' : Hp} {D : Addr} (s : Same H H') (h : H D = none) : Same H (hide H' D) := fun b o q => hide_at (s _ _ q) (ne_of_none q h)
/-- told by tuples alone: a list may change beside -/
def OffT {β : Type} (R : Hp → V → β → Prop) : Prop := ∀ (H : Hp) (D : Addr) (acc : List V) (v : V) (x : β), H D = some (.lst acc) → R H v x → R (hide H D) v x
theorem off_ne {H : Hp} {D a : Addr} {acc xs : List V} (h : H D = some (.lst acc)) (q : H a = some (.tup xs)) : a ≠ D := ne_of q h (by intro z; cases z)
theorem off_span : OffT SpanAt := fun _ _ _ _ _ h ⟨a, e, q⟩ => ⟨a, e, hide_at q (off_ne h q)⟩
theorem off_mark : OffT MarkAt := fun _ _ _ _ _ h ⟨a, b, e, q, q'⟩ => ⟨a, b, e, hide_at q (off_ne h q), hide_at q' (off_ne h q')⟩
theorem off_step : OffT StepAt := fun _ _ _ _ _ h ⟨a, e, q⟩ => ⟨a, e, hide_at q (off_ne h q)⟩
theorem off_int : OffT IntAt := fun _ _ _ _ _ _ h => h
theorem paired_off {β : Type} {R : Hp → V → β → Prop} (off : OffT R) {H : Hp} {D : Addr} {acc : List V} (h : H D = some (.lst acc)) : ∀ {vs : List V} {xs : List β}, Paired (R H) vs xs → Paired (R (hide H D)) vs xs
  | _, _, .nil => .nil
  | _, _, .cons r t => .cons (off _ _ _ _ _ h r) (paired_off off h t)
/-- what the making loop keeps: the list at D is told by some prefix -/
def Made (R : Hp → V → β → Prop) (H1 : Hp) (D : Addr) (ys : List β) (H : Hp) : Prop := Same H1 H ∧ ∃ acc, H D = some (.lst acc) ∧ Paired (R (hide H D)) acc ys
theorem made_nil {R : Hp → V → β → Prop} {D : Addr} (hD : H1 D = none) : Made R H1 D [] (upd H1 D (.lst [])) := ⟨same_new hD _, [], upd_same, .nil⟩
theorem made_snoc {R : Hp → V → β → Prop} (mono : Mono R) {D : Addr} (hD : H1 D = none) {ys : List β} {H H4 : Hp} {yv : V} {y : β} (m : Made R H1 D ys H) (s : Same H H4) (hy : R (hide H4 D) yv y) (hz : ys.length < sizeLine) :
    ∃ acc, H4 D = some (.lst acc) ∧ acc.length < sizeLine ∧ Made R H1 D (ys ++ [y]) (upd H4 D (.lst (acc ++ [yv]))) := by
  obtain ⟨s1, acc, h1, h2⟩ := m
  refine ⟨acc, s _ _ h1, by rw [paired_len h2]; exact hz, same_over (s1.trans s) hD _, _, upd_same, ?_⟩
  rw [hide_upd]
  exact paired_snoc (paired_mono mono (hide_same s) h2) hy
theorem made_same {R : Hp → V → β → Prop} (mono : Mono R) {D : Addr} {ys : List β} {H H4 : Hp} (m : Made R H1 D ys H) (s : Same H H4) : Made R H1 D ys H4 := by
  obtain ⟨s1, acc, h1, h2⟩ := m
  exact ⟨s1.trans s, acc, s _ _ h1, paired_mono mono (hide_same s) h2⟩
theorem made_end {R : Hp → V → β → Prop} (mono : Mono R) {D : Addr} {ys : List β} {H : Hp} (m : Made R H1 D ys H) : ∃ acc, H D = some (.lst acc) ∧ Paired (R H) acc ys := by
  obtain ⟨s1, acc, h1, h2⟩ := m
  exact ⟨acc, h1, paired_mono mono hide_in h2⟩
theorem fm_take {f : α → Option β} {as : List α} {i : Nat} {a : α} (h : as[i]? = some a) : (as.take (i + 1)).filterMap f = (as.take i).filterMap f ++ (match f a with | none => [] | some y => [y]) := by
  rw [List.take_add_one, h, List.filterMap_append]
  show _ ++ [a].filterMap f = _
  cases e : f a <;> simp [e]
/-- a comprehension over a list that stands still, with or without a test -/
theorem lc_fmH {a : Addr} {vs : List V} {as : List α} {R : Hp → V → β → Prop} (mono : Mono R) (f : α → Option β) (hp : vs.length = as.length) (hL : H1 a = some (.lst vs)) (hz : vs.length < sizeLine)
    (hs : ∀ (i : Nat) (x : V) (y0 : α) (D : Addr) (H' : Hp) (N : V → Hp → Prop) (C : Hp → Prop), vs[i]? = some x → as[i]? = some y0 → H1 D = none → Same H1 H' → (∃ acc, H' D = some (.lst acc)) →
      (∀ y yv H4, f y0 = some y → Same H' H4 → R (hide H4 D) yv y → N yv H4) → (∀ H3, f y0 = none → Same H' H3 → C H3) →
      g x (wipe σ ws) H' fun σ2 H2 => wipe σ2 ws = wipe σ ws ∧ tt σ2 H2 fun b H3 => if b = true then te σ2 H3 N else C H3)
    (hd : ∀ D H', H1 D = none → Same H1 H' → (∃ acc, H' D = some (.lst acc) ∧ Paired (R H') acc (as.filterMap f)) → Q (.ref D) H') : tLc (ovr (Itl K a)) g tt te ws σ H1 Q := by
  intro D hD
  refine lc_list (K := K) (a := a) (xs := vs) (fun i H' => Made R H1 D ((as.take i).filterMap f) H') (made_nil hD) (fun i H' _ m => .inl (.inl (m.1 _ _ hL))) (fun i x H' hx m => ?_) fun H' m => ?_
  · have hi : i < as.length := by
      rw [← hp]
      exact (List.getElem?_eq_some_iff.mp hx).1
    have ha : as[i]? = some as[i] := List.getElem?_eq_getElem hi
    have hl : ((as.take i).filterMap f).length < sizeLine := by
      have h1 := List.length_filterMap_le f (as.take i)
      rw [List.length_take] at h1
      omega
    have hA : ∃ acc, H' D = some (.lst acc) := by
      obtain ⟨_, acc, h, _⟩ := m
      exact ⟨acc, h⟩
    have et := fm_take (f := f) ha
    refine hs i x as[i] D H' _ _ hx ha hD m.1 hA (fun y yv H4 e s r => ?_) fun H3 e s => ?_
    · rw [e] at et
      obtain ⟨acc, q1, q2, q3⟩ := made_snoc mono hD m s r hl
      refine ⟨acc, q1, q2, ?_⟩
      show Made R H1 D ((as.take (i + 1)).filterMap f) _
      rw [et]
      exact q3
    · rw [e] at et
      show Made R H1 D ((as.take (i + 1)).filterMap f) _
      rw [et, List.append_nil]
      exact made_same mono m s
  · rw [hp, List.take_length] at m
    exact hd D H' hD m.1 (made_end mono m)
/-- .. of things told by tuples alone -/
theorem lc_fm {a : Addr} {vs : List V} {as : List α} {R : Hp → V → β → Prop} (mono : Mono R) (off : OffT R) (f : α → Option β) (hp : vs.length = as.length) (hL : H1 a = some (.lst vs)) (hz : vs.length < sizeLine)
    (hs : ∀ (i : Nat) (x : V) (y0 : α) (H' : Hp) (N : V → Hp → Prop) (C : Hp → Prop), vs[i]? = some x → as[i]? = some y0 → Same H1 H' →
      (∀ y yv H4, f y0 = some y → Same H' H4 → R H4 yv y → N yv H4) → (∀ H3, f y0 = none → Same H' H3 → C H3) →
      g x (wipe σ ws) H' fun σ2 H2 => wipe σ2 ws = wipe σ ws ∧ tt σ2 H2 fun b H3 => if b = true then te σ2 H3 N else C H3)
    (hd : ∀ D H', H1 D = none → Same H1 H' → (∃ acc, H' D = some (.lst acc) ∧ Paired (R H') acc (as.filterMap f)) → Q (.ref D) H') : tLc (ovr (Itl K a)) g tt te ws σ H1 Q :=
  lc_fmH mono f hp hL hz (fun i x y0 D H' N C hx hy _ s ⟨acc, hA⟩ hN hC => hs i x y0 H' N C hx hy s (fun y yv H4 e s4 r => hN y yv H4 e s4 (off _ _ _ _ _ (s4 _ _ hA) r)) hC) hd
/-- a comprehension over a range -/
theorem lc_rgH {lo : Int} {n : Nat} {R : Hp → V → β → Prop} (mono : Mono R) (f : Nat → β) (hz : n < sizeLine)
    (hs : ∀ (i : Nat) (D : Addr) (H' : Hp) (N : V → Hp → Prop) (C : Hp → Prop), i < n → H1 D = none → Same H1 H' → (∃ acc, H' D = some (.lst acc)) → (∀ yv H4, Same H' H4 → R (hide H4 D) yv (f i) → N yv H4) →
      g (.int (lo + i)) (wipe σ ws) H' fun σ2 H2 => wipe σ2 ws = wipe σ ws ∧ tt σ2 H2 fun b H3 => if b = true then te σ2 H3 N else C H3)
    (hd : ∀ D H', H1 D = none → Same H1 H' → (∃ acc, H' D = some (.lst acc) ∧ Paired (R H') acc ((List.range n).map f)) → Q (.ref D) H') : tLc (ovr (Itr lo n)) g tt te ws σ H1 Q := by
  intro D hD
  refine lc_range (lo := lo) (n := n) (fun i H' => Made R H1 D ((List.range i).map f) H') (made_nil hD) (fun i H' hi m => ?_) fun H' m => ?_
  · have hl : ((List.range i).map f).length < sizeLine := by
      rw [List.length_map, List.length_range]
      omega
    have hA : ∃ acc, H' D = some (.lst acc) := by
      obtain ⟨_, acc, h, _⟩ := m
      exact ⟨acc, h⟩
    refine hs i D H' _ _ hi hD m.1 hA fun yv H4 s r => ?_
    obtain ⟨acc, q1, q2, q3⟩ := made_snoc mono hD m s r hl
    refine ⟨acc, q1, q2, ?_⟩
    show Made R H1 D ((List.range (i + 1)).map f) _
    rw [List.range_succ, List.map_append]
    exact q3
  · exact hd D H' hD m.1 (made_end mono m)
theorem lc_rg {lo : Int} {n : Nat} {R : Hp → V → β → Prop} (mono : Mono R) (off : OffT R) (f : Nat → β) (hz : n < sizeLine)
    (hs : ∀ (i : Nat) (H' : Hp) (N : V → Hp → Prop) (C : Hp → Prop), i < n → Same H1 H' → (∀ yv H4, Same H' H4 → R H4 yv (f i) → N yv H4) →
      g (.int (lo + i)) (wipe σ ws) H' fun σ2 H2 => wipe σ2 ws = wipe σ ws ∧ tt σ2 H2 fun b H3 => if b = true then te σ2 H3 N else C H3)
    (hd : ∀ D H', H1 D = none → Same H1 H' → (∃ acc, H' D = some (.lst acc) ∧ Paired (R H') acc ((List.range n).map f)) → Q (.ref D) H') : tLc (ovr (Itr lo n)) g tt te ws σ H1 Q :=
  lc_rgH mono f hz (fun i D H' N C hi _ s ⟨acc, hA⟩ hN => hs i H' N C hi s fun yv H4 s4 r => hN yv H4 s4 (off _ _ _ _ _ (s4 _ _ hA) r)) hd
end
end Gz
namespace Gz
open PySem PySem.Spec PyProof.Rows L2
/-! ## own rules: max and min of a list of ints, default=None -/
theorem ints_all (h : Heap) : ∀ {vs : List Value} {ns : List Int}, IntsAre vs ns → ReadsAll h vs (ns.map PyData.int) []
  | _, _, .nil => .nil
  | _, _, .cons _ _ r => .cons (.int _ _) (ints_all h r)
theorem ints_alike (ns : List Int) : PySem.W.AlikeAll (ns.map PyData.int) := by
  refine ⟨fun x hx y hy => ?_, fun x hx e => ?_⟩
  · obtain ⟨i, _, rfl⟩ := List.mem_map.mp hx
    obtain ⟨j, _, rfl⟩ := List.mem_map.mp hy
    rfl
  · obtain ⟨i, _, rfl⟩ := List.mem_map.mp hx
    cases e
theorem fold_max : ∀ (r : List Int) (n : Int), (r.foldl max n = n ∨ r.foldl max n ∈ r) ∧ n ≤ r.foldl max n ∧ ∀ y ∈ r, y ≤ r.foldl max n
  | [], n => ⟨.inl rfl, Int.le_refl _, fun y h => by cases h⟩
  | a :: r, n => by
    obtain ⟨h1, h2, h3⟩ := fold_max r (max n a)
    show ((r.foldl max (max n a) = n) ∨ _) ∧ n ≤ r.foldl max (max n a) ∧ ∀ y ∈ a :: r, y ≤ r.foldl max (max n a)
    have e : max n a = n ∨ max n a = a := by omega
    refine ⟨?_, by omega, fun y hy => ?_⟩
    · rcases h1 with h1 | h1
      · rcases e with e | e
        · exact .inl (by rw [h1, e])
        · exact .inr (by show r.foldl max (max n a) ∈ a :: r; rw [h1, e]; exact List.mem_cons_self)
      · exact .inr (List.mem_cons_of_mem _ h1)
    · rcases List.mem_cons.mp hy with z | z
      · omega
      · exact h3 y z
theorem fold_min : ∀ (r : List Int) (n : Int), (r.foldl min n = n ∨ r.foldl min n ∈ r) ∧ r.foldl min n ≤ n ∧ ∀ y ∈ r, r.foldl min n ≤ y
  | [], n => ⟨.inl rfl, Int.le_refl _, fun y h => by cases h⟩
  | a :: r, n => by
    obtain ⟨h1, h2, h3⟩ := fold_min r (min n a)
    show ((r.foldl min (min n a) = n) ∨ _) ∧ r.foldl min (min n a) ≤ n ∧ ∀ y ∈ a :: r, r.foldl min (min n a) ≤ y
    have e : min n a = n ∨ min n a = a := by omega
    refine ⟨?_, by omega, fun y hy => ?_⟩
    · rcases h1 with h1 | h1
      · rcases e with e | e
        · exact .inl (by rw [h1, e])
        · exact .inr (by show r.foldl min (min n a) ∈ a :: r; rw [h1, e]; exact List.mem_cons_self)
      · exact .inr (List.mem_cons_of_mem _ h1)
    · rcases List.mem_cons.mp hy with z | z
      · omega
      · exact h3 y z
theorem is_max (n : Int) (r : List Int) : IsMax (n :: r) (some (r.foldl max n)) := by
  obtain ⟨h1, h2, h3⟩ := fold_max r n
  refine ⟨?_, fun y hy => ?_⟩
  · rcases h1 with h | h
    · rw [h]; exact List.mem_cons_self
    · exact List.mem_cons_of_mem _ h
  · rcases List.mem_cons.mp hy with z | z
    · omega
    · exact h3 y z
theorem is_min (n : Int) (r : List Int) : IsMin (n :: r) (some (r.foldl min n)) := by
  obtain ⟨h1, h2, h3⟩ := fold_min r n
  refine ⟨?_, fun y hy => ?_⟩
  · rcases h1 with h | h
    · rw [h]; exact List.mem_cons_self
    · exact List.mem_cons_of_mem _ h
  · rcases List.mem_cons.mp hy with z | z
    · omega
    · exact h3 y z
def rExtD (P : List Int → Option Int → Prop) (K : PySem.W.Frag) : List V → List V → Hp → VK → Prop := fun vs zs H Q =>
  ∃ (a : Addr) (ns : List Int), vs = [V.ref a] ∧ zs = [V.non] ∧ SqL K H a (ns.map V.int) ∧ ∀ o, P ns o → Q (vO o) H
section
variable {X : Cx}
theorem cr_maxD (hc : X.calm = true) (hu : X.A.units + 64 < cLine) : CallRK X (.builtin "max") [Str.ofString "default"] (rExtD IsMax X.K) := by
  intro pins s σ H vs zs us ws Q I r1 r2 h
  obtain ⟨a, ns, rfl, rfl, hs, q⟩ := h
  obtain ⟨its, rv, hl, hz⟩ := I.list hs
  rw [Vals.ref1 r1]
  cases r2 with
  | cons rn rr =>
    cases rr
    cases rn
    have hi := rv.ints
    refine PySem.W.max_list_default (vs := its.toArray) (xs := ns.map PyData.int) (I.ok.hd hc) hl.isList (ints_all _ hi) (ints_alike ns) (by rw [PyProof.Rows.depthAll_ints]; omega) (fun e h' tk k => ?_) fun y ys i v h' tk bs e hv hr k => ?_
    · cases ns with
      | nil => exact ⟨.non, H, I.kept k, rfl, q none rfl⟩
      | cons n r => cases e
    · cases ns with
      | nil => cases e
      | cons n r =>
        have e1 : PyData.int n = y := (List.cons.inj e).1
        have e2 : r.map PyData.int = ys := (List.cons.inj e).2
        rw [← e1, ← e2, PySem.W.maxD_ints] at hr
        cases hr with
        | int _ t => exact ⟨.int _, H, I.kept k, ⟨t, rfl⟩, q (some _) (is_max n r)⟩
theorem cr_minD (hc : X.calm = true) (hu : X.A.units + 64 < cLine) : CallRK X (.builtin "min") [Str.ofString "default"] (rExtD IsMin X.K) := by
  intro pins s σ H vs zs us ws Q I r1 r2 h
  obtain ⟨a, ns, rfl, rfl, hs, q⟩ := h
  obtain ⟨its, rv, hl, hz⟩ := I.list hs
  rw [Vals.ref1 r1]
  cases r2 with
  | cons rn rr =>
    cases rr
    cases rn
    have hi := rv.ints
    refine PySem.W.min_list_default (vs := its.toArray) (xs := ns.map PyData.int) (I.ok.hd hc) hl.isList (ints_all _ hi) (ints_alike ns) (by rw [PyProof.Rows.depthAll_ints]; omega) (fun e h' tk k => ?_) fun y ys i v h' tk bs e hv hr k => ?_
    · cases ns with
      | nil => exact ⟨.non, H, I.kept k, rfl, q none rfl⟩
      | cons n r => cases e
    · cases ns with
      | nil => cases e
      | cons n r =>
        have e1 : PyData.int n = y := (List.cons.inj e).1
        have e2 : r.map PyData.int = ys := (List.cons.inj e).2
        rw [← e1, ← e2, PySem.W.minD_ints] at hr
        cases hr with
        | int _ t => exact ⟨.int _, H, I.kept k, ⟨t, rfl⟩, q (some _) (is_min n r)⟩
/-- products of any ints that the machine still takes -/
theorem op_mulB : OpR X (binaryOp .Mult) (rI IntMulOk fun i j => .int (i * j)) := opI fun _ _ _ _ _ _ _ hc q => mul_int q hc
end
end Gz
namespace Gz
open PySem PySem.Spec PyProof.Rows L2
/-! ## own rule: sorted(xs, key=f), f a def of the program that tells two ints -/
section
variable {X : Cx} {pins : List (Addr × Obj)} {σ : L2.St} {H : Hp} {s : Shared}
/-- a tracked list is let go -/
theorem drop_lst {b : Addr} {xs : List V} (I : Inv X pins σ H s) (h : H b = some (.lst xs)) : Inv X pins σ (hide H b) s := by
  have ne : ∀ c u, H c = some u → (∀ ys, u ≠ .lst ys) → hide H b c = some u := fun c u q n => hide_at q fun z => by
    rw [z, h] at q
    exact n xs (Option.some.inj q).symm
  have nn : ∀ c, H c = none → hide H b c = none := fun c q => by
    unfold hide
    split
    · rfl
    · exact q
  refine ⟨I.ok, I.os, I.bare, ⟨fun c o q n => I.base.keep c o q n, fun c o q n => I.base.slot c o q n, fun c o q n e => nn _ (I.base.free c o q n e), I.base.there, fun c ys q => ne _ _ (I.base.tups c ys q) (fun _ z => nomatch z), fun c o u q => ne _ _ (I.base.frzs c o u q) (fun _ z => nomatch z), fun c ps q => ?_⟩,
    I.loc, I.cell, nn _ I.free, fun x c q => nn _ (I.freeC x c q), fun p hp => ?_, fun c o q => ?_, I.len⟩
  · obtain ⟨m, e⟩ := I.base.tbls c ps q
    exact ⟨m, ne _ _ e (fun _ z => nomatch z)⟩
  · obtain ⟨h1, h2, h3⟩ := I.pin p hp
    exact ⟨h1, nn _ h2, h3⟩
  · refine (I.hok c o (hide_in c o q)).stay (fun d u _ z => z) (fun d z => ne _ _ z (fun _ z => nomatch z)) fun d ys z => ne _ _ z (fun _ z => nomatch z)
/-- a def called from two built-ins deep -/
theorem run_in2 {k : Nat} {f : Addr} {fd : FuncData} {p : Str} {sp : Sp} {Q : VK} {x : V} {u : Value} {E : Value → Shared → Prop} (F : FnOk X.prog X.w X.K X.mg X.base CX0 k f fd [p] sp) (hr : Room (k + 2) X.A) (hb : Binds X.K fd [p] []) (I : Inv X pins σ H s) (r : RelV x u) (h : sp [x] H Q E0) :
    wpAny (model X.prog X.w) X.A.in1.in1 (call (.ref f) [u]) (EP X pins σ Q) E s := by
  refine wpAny_call (codeAny_mono (F.run X.A.in1.in1 X.stack s H ⟨[u], []⟩ [u] [x] Q E0 hr.in1.in1 I.env0.in1.in1 (hb s [u] I.kIn rfl) (.cons r .nil) h) fun r s' hq => ?_)
  cases r with
  | error e => exact False.elim hq
  | ok fl =>
    cases fl with
    | ret u => exact I.after hq
    | next => exact False.elim hq
    | brk => exact False.elim hq
    | cont => exact False.elim hq
/-- two ints as a key -/
abbrev key2 (k : V → Int × Int) (x : V) : PyData := .tuple [.int (k x).1, .int (k x).2]
def kle (k : V → Int × Int) (x y : V) : Bool := decide ((k x).1 < (k y).1 ∨ ((k x).1 = (k y).1 ∧ (k x).2 ≤ (k y).2))
theorem key2_le (k : V → Int × Int) : PySem.W.dataLe false (key2 k) = kle k := PySem.W.dataLe_ii (β := V) (fun x => (k x).1) (fun x => (k x).2)
theorem key2_alike (k : V → Int × Int) (xs : List V) : PySem.W.AllAlike (xs.map (key2 k)) := PySem.W.AllAlike.of fun _ _ => by simp [PySem.W.alike, PySem.W.alikeAll]
theorem key2_sort (k : V → Int × Int) (xs : List V) : PySem.W.Sortable (xs.map (key2 k)) := PySem.W.Sortable.tuples fun _ => ⟨_, _, rfl⟩
theorem key2_reads {q : Addr} {i j : Int} {u : Value} (I : Inv X pins σ H s) (h : H q = some (.tup [.int i, .int j])) (r : RelV (.ref q) u) : ∃ as, Reads s.heap u (.tuple [.int i, .int j]) as :=
  Dp.reads I _ _ u (Dp.tup (.inl (.inl h)) (.cons (.int i) (.cons (.int j) .nil))) r
def KeyTold (H : Hp) (v : V) (z : Int × Int) : Prop := ∃ q, v = .ref q ∧ H q = some (.tup [.int z.1, .int z.2])
theorem vals_each : ∀ {xs : List V} {us : List Value}, Vals xs us → PySem.W.EachIs (fun u x => RelV x u) us xs
  | _, _, .nil => .nil
  | _, _, .cons r t => .cons r (vals_each t)
theorem each_vals : ∀ {xs : List V} {us : List Value}, PySem.W.EachIs (fun u x => RelV x u) us xs → Vals xs us
  | _, _, .nil => .nil
  | _, _, .cons r t => .cons r (each_vals t)
theorem each_keys {k : V → Int × Int} (I : Inv X pins σ H s) : ∀ {xs zs : List V} {us : List Value}, Paired (KeyTold H) zs (xs.map k) → Vals zs us → PySem.W.EachIs (fun u d => ∃ as, Reads s.heap u d as) us (xs.map (key2 k))
  | [], _, _, .nil, .nil => .nil
  | x :: xs, _, _, .cons r t, .cons ru tu => by
    obtain ⟨q, rfl, hq⟩ := r
    exact .cons (key2_reads I hq ru) (each_keys I t tu)
end
end Gz
namespace Gz
open PySem PySem.Spec PyProof.Rows L2
section
variable {X : Cx} {pins : List (Addr × Obj)} {σ : L2.St} {H : Hp} {s : Shared}
open PySem.W PySem.Calls
theorem told_mono {H H' : Hp} (s : Same H H') : ∀ {zs : List V} {ks : List (Int × Int)}, Paired (KeyTold H) zs ks → Paired (KeyTold H') zs ks
  | _, _, .nil => .nil
  | _, _, .cons ⟨q, e, h⟩ t => .cons ⟨q, e, s _ _ h⟩ (told_mono s t)
theorem told_off {H : Hp} {D : Addr} {acc : List V} (hD : H D = some (.lst acc)) {o : HO} : ∀ {zs : List V} {ks : List (Int × Int)}, Paired (KeyTold H) zs ks → Paired (KeyTold (upd H D o)) zs ks
  | _, _, .nil => .nil
  | _, _, .cons ⟨q, e, h⟩ t => .cons ⟨q, e, by rw [upd_ne (off_ne hD h)]; exact h⟩ (told_off hD t)
/-- what a key def promises of an item, wherever more is tracked than in H -/
def KeyDef (sp : Sp) (H : Hp) (k : V → Int × Int) (x : V) : Prop := ∀ H' (Q : VK), Same H H' → (∀ q H'', Same H' H'' → H'' q = some (.tup [.int (k x).1, .int (k x).2]) → Q (.ref q) H'') → sp [x] H' Q E0
/-- what the loop over the items keeps: kS holds the keys so far -/
def KLoop (X : Cx) (pins : List (Addr × Obj)) (σ : L2.St) (H : Hp) (kS : Addr) (k : V → Int × Int) (xs : List V) (i : Nat) (s' : Shared) : Prop :=
  ∃ (H' : Hp) (zs : List V), Inv X pins σ H' s' ∧ Same H H' ∧ H' kS = some (.lst zs) ∧ Paired (KeyTold H') zs ((xs.take i).map k)
theorem key_rest {kk : Nat} {f a kS : Addr} {e1 : Nat} {fd : FuncData} {p : Str} {sp : Sp} {k : V → Int × Int} {xs : List V} {its : List Value} {R : PySem.Fin → Shared → Prop} {E : Value → Shared → Prop} (F : FnOk X.prog X.w X.K X.mg X.base CX0 kk f fd [p] sp) (hr : Room (kk + 2) X.A)
    (hb : Binds X.K fd [p] []) (I : Inv X ((a, seqObj "list" #[] e1) :: pins) σ (upd H kS (.lst [])) s) (nS : H kS = none) (hka : kS ≠ a) (rv : Vals xs its) (hz : xs.length ≤ sizeLine) (hk : ∀ x ∈ xs, KeyDef sp H k x)
    (h : ∀ (zs : List V) (H' : Hp) (s' : Shared), Inv X ((a, seqObj "list" #[] e1) :: pins) σ H' s' → Same H H' → H' kS = some (.lst zs) → Paired (KeyTold H') zs (xs.map k) → ∀ kv : List Value, Vals zs kv → (∃ c, s'.heap.get? kS = some (seqObj "list" kv.toArray c)) →
      wpAny (model X.prog X.w) X.A.in1.in1 (ksk_end a false its.toArray e1 (.ref kS) kv.toArray) R E s') :
    wpAny (model X.prog X.w) X.A.in1.in1 (ksk_rest a (.ref f) false its.toArray e1 (.ref kS)) R E s := by
  have hl : xs.length = its.length := rv.length
  unfold ksk_rest
  refine wpAny_bind (wpAny_rule ?_)
  first
    | rw [List.forIn_toArray]
    | (rw [← Array.forIn_toList]; simp only [List.toList_toArray])
  refine wpAny_bind (ksk_fold (KLoop X ((a, seqObj "list" #[] e1) :: pins) σ H kS k xs) its 0 s ⟨_, [], I, same_new nS _, upd_same, .nil⟩ (fun j u s' hu hL => ?_) fun s' hL => ?_)
  · rw [Nat.zero_add] at hL ⊢
    obtain ⟨H', zs, I', sm, hS, pz⟩ := hL
    have hj : j < xs.length := by
      rw [hl]
      exact (List.getElem?_eq_some_iff.mp hu).1
    have hx : xs[j]? = some xs[j] := List.getElem?_eq_getElem hj
    obtain ⟨u', hu', ru⟩ := rv.get hx
    obtain rfl : u' = u := Option.some.inj (hu'.symm.trans hu)
    refine wpAny_bind (wpAny_attempt (wpAny_mono (run_in2 (Q := fun v H'' => Same H' H'' ∧ KeyTold H'' v (k xs[j])) F hr hb I' ru (hk _ (List.mem_of_getElem? hx) H' _ sm fun q H'' s2 hq => ⟨s2, q, rfl, hq⟩)) (fun v s'' he => ?_) fun _ _ hF => hF))
    obtain ⟨v', H'', I'', rvv, s2, kt⟩ := he
    try dsimp only
    have hS2 : H'' kS = some (.lst zs) := s2 _ _ hS
    obtain ⟨hzz, kv, n, rz, hl2, ho⟩ := I''.lstM hS2
    have hlz : zs.length = j := by
      rw [paired_len pz, List.length_map, List.length_take]
      omega
    have hkl : kv.toArray.size = j := by rw [List.size_toArray]; omega
    have I3 := I''.lset (its' := kv ++ [v]) (f := (·.push v)) (ys := zs ++ [v']) (t' := s''.toks) hS2 ho (by simp) (Vals.append rz (.cons rvv .nil)) (by rw [List.length_append, List.length_singleton]; omega)
    refine wpAny_bind (listUpdate_at ho rfl ?_ (by omega) (by rw [Array.size_push]; omega))
    refine wpAny_pure ⟨rfl, _, _, I3, same_over (sm.trans s2) nS _, upd_same, ?_⟩
    have ek : (xs.take (j + 1)).map k = (xs.take j).map k ++ [k xs[j]] := by rw [List.take_add_one, hx, List.map_append]; rfl
    rw [ek]
    have pz2 : Paired (KeyTold H'') (zs ++ [v']) ((xs.take j).map k ++ [k xs[j]]) := paired_snoc (told_mono s2 pz) kt
    exact told_off hS2 pz2
  · rw [Nat.zero_add, ← hl] at hL
    obtain ⟨H', zs, I', sm, hS, pz⟩ := hL
    rw [List.take_length] at pz
    obtain ⟨hzz, kv, n, rz, hl2, ho⟩ := I'.lstM hS
    try dsimp only
    refine wpAny_bind (listItems_at ho rfl ?_)
    exact h zs H' s' I' sm hS pz kv rz ⟨n, ho⟩
end
end Gz
namespace Gz
open PySem PySem.Spec PyProof.Rows L2
section
variable {X : Cx} {pins : List (Addr × Obj)} {σ : L2.St} {H : Hp} {s : Shared}
open PySem.W PySem.Calls
theorem merge_perm (k : V → Int × Int) (xs : List V) : (xs.mergeSort (kle k)).Perm xs := List.mergeSort_perm xs _
theorem merge_sorted (k : V → Int × Int) (xs : List V) : (xs.mergeSort (kle k)).Pairwise (fun x y => kle k x y = true) :=
  List.pairwise_mergeSort (fun x y z h1 h2 => by
    have a := of_decide_eq_true h1
    have b := of_decide_eq_true h2
    exact decide_eq_true (by omega)) (fun x y => by
    by_cases h : kle k x y = true
    · rw [h]; rfl
    · have a := of_decide_eq_false (Bool.eq_false_iff.mpr h)
      have b : kle k y x = true := decide_eq_true (by omega)
      rw [b, Bool.or_true]) xs
theorem key_sort {kk : Nat} {f a : Addr} {fd : FuncData} {p : Str} {sp : Sp} {k : V → Int × Int} {xs : List V} {R : PySem.Fin → Shared → Prop} {E : Value → Shared → Prop} (F : FnOk X.prog X.w X.K X.mg X.base CX0 kk f fd [p] sp) (hr : Room (kk + 2) X.A)
    (hb : Binds X.K fd [p] []) (I : Inv X pins σ H s) (hA : H a = some (.lst xs)) (hk : ∀ x ∈ xs, KeyDef sp (hide H a) k x) (fpa : ∀ H', H' a = none → FpOk X pins H' a)
    (h : ∀ (ys : List V) (H' : Hp) (s' : Shared), ys.Perm xs → ys.Pairwise (fun x y => kle k x y = true) → Same (hide H a) H' → Inv X pins σ H' s' → H' a = some (.lst ys) → R (.done (.ret .none)) s') :
    wpAny (model X.prog X.w) X.A.in1.in1 (ksk_tree a (.ref f) false) R E s := by
  obtain ⟨hz, its, n, rv, hl, ho⟩ := I.lstM hA
  have hzL : its.length ≤ sizeLine := by
    rw [← hl]
    exact hz
  obtain ⟨e1, ho1⟩ : ∃ c, (s.heap.update a (Obj.mapSeq fun _ => (#[] : Array Value))).get? a = some (seqObj "list" #[] c) := ⟨_, get?_update_seq ho fun _ => #[]⟩
  have haa : hide H a a = none := by unfold hide; rw [if_pos rfl]
  have fa := fpa (hide H a) haa
  have I1 : Inv X pins σ (upd H a (.lst [])) { s with heap := s.heap.update a (Obj.mapSeq fun _ => (#[] : Array Value)), toks := s.toks } := I.lset (its' := []) hA ho rfl .nil (Nat.zero_le _)
  have I1' := drop_lst I1 upd_same
  rw [hide_upd] at I1'
  have I1p : Inv X ((a, seqObj "list" #[] e1) :: pins) σ (hide H a) { s with heap := s.heap.update a (Obj.mapSeq fun _ => (#[] : Array Value)), toks := s.toks } := I1'.pins_of fun q hq => by
    rcases List.mem_cons.mp hq with e | e
    · subst e
      exact ⟨ho1, haa, fa.2.1, fa.2.2.1, fun v z => by cases z⟩
    · exact I1'.pin q (List.mem_append_right _ e)
  have I2 : Inv X ((a, seqObj "list" #[] e1) :: pins) σ (hide H a) { s with heap := (s.heap.update a (Obj.mapSeq fun _ => (#[] : Array Value))).push (seqObj "tuple" its.toArray 0), toks := s.toks } := I1p.kept (t' := s.toks) fun _ _ q => Heap.get?_push_of_some _ q
  have I3 := I2.lnew (its := []) (ys := []) (t' := s.toks) .nil (Nat.zero_le _)
  have nS := I2.fresh
  have fS := fun H' (hn : H' _ = none) => I2.fpOk (H' := H') (Nat.le_refl _) hn
  have hka : ((s.heap.update a (Obj.mapSeq fun _ => (#[] : Array Value))).push (seqObj "tuple" its.toArray 0)).objs.size ≠ a := by
    have h1 : a < (s.heap.update a (Obj.mapSeq fun _ => (#[] : Array Value))).objs.size := Heap.lt_size ho1
    rw [size_push']
    exact Nat.ne_of_gt (Nat.lt_succ_of_lt h1)
  unfold ksk_tree
  refine wpAny_bind (listItems_at ho rfl ?_)
  refine wpAny_bind (listUpdate_at ho rfl ?_ (by rw [List.size_toArray]; exact hzL) (Nat.zero_le _))
  refine wpAny_bind (seqEpoch_at ho1 rfl ?_)
  refine wpAny_bind (wpAny_newTuple ?_ (by show its.length ≤ _; exact hzL))
  refine wpAny_bind (wpAny_newList ?_ (Nat.zero_le _))
  refine wpAny_holding ?_
  refine key_rest F hr hb I3 nS hka rv hz hk fun zs H' s' I' sm hS pz kv rz hko => ?_
  obtain ⟨c, hko⟩ := hko
  obtain ⟨hoa, hHa, _⟩ := I'.pin (a, seqObj "list" #[] e1) (List.mem_append_right _ List.mem_cons_self)
  generalize ((s.heap.update a (Obj.mapSeq fun _ => (#[] : Array Value))).push (seqObj "tuple" its.toArray 0)).objs.size = kS at *
  have hd0 : (PySem.W.hideAll s'.heap [kS]).get? kS = none := PySem.W.hideAll_none [kS] (by simp)
  have hd1 : ∀ b o, (PySem.W.hideAll s'.heap [kS]).get? b = some o → s'.heap.get? b = some o := fun b o e => PySem.W.of_hideAll [kS] e
  have hd2 : ∀ b o, b ≠ kS → s'.heap.get? b = some o → (PySem.W.hideAll s'.heap [kS]).get? b = some o := fun b o n e => PySem.W.hideAll_get _ e (by simpa using n)
  have hzl : zs.length = xs.length := by rw [paired_len pz, List.length_map]
  have hkl : kv.toArray.size = its.length := by rw [List.size_toArray, ← rz.length, hzl, hl]
  have ek := each_keys I' pz rz
  have hu : ∀ d, d ∈ xs.map (key2 k) → X.A.in1.in1.units + d.depth < cLine := fun d hd => by
    obtain ⟨x, _, rfl⟩ := List.mem_map.mp hd
    have e : (key2 k x).depth = 1 := by simp [key2, PyData.depth, PyData.depthAll]
    have q : X.A.in1.in1.units + 64 < cLine := (hr.mono (by omega) : Room 2 X.A).in1.in1.units
    omega
  have ek2 : PySem.W.EachIs (fun v d => ∃ as, Reads s'.heap v d as) kv.toArray.toList (xs.map (key2 k)) := by rw [List.toList_toArray]; exact ek
  refine keyH_end (h₁ := PySem.W.hideAll s'.heap [kS]) (κ := dataKind s'.heap (xs.map (key2 k))) (fun b o _ e => hd1 b o e) hd0 hko hoa hka (SortsAt.data ek2 (key2_alike k xs) (key2_sort k xs) hu) hkl hzL fun h' tk c' kp hn => ?_
  have ko : KeyedOut false (xs.map (key2 k)) its (sortVals (dataKind s'.heap (xs.map (key2 k))) false kv.toArray.toList its) := ⟨s'.heap, kv.toArray.toList, key2_alike k xs, rfl, ek2⟩
  have eo := keyedOut_each (key2 k) ko (vals_each rv)
  rw [key2_le] at eo
  have ro := each_vals eo
  have hya : (hide H' kS) a = none := by
    unfold hide
    split
    · rfl
    · exact hHa
  have hSS : (hide H' kS) kS = none := by unfold hide; rw [if_pos rfl]
  have D1 : Inv X pins σ (hide H' kS) s' := (drop_lst I' hS).pins_of fun q hq => (drop_lst I' hS).pin q (List.mem_append_right _ (List.mem_cons_of_mem _ hq))
  have fpS : FpOk X pins (hide H' kS) kS := by
    obtain ⟨_, q2, q3, q4, q5, q6⟩ := fS (hide H' kS) hSS
    exact ⟨hSS, q2, q3, q4, q5, fun p hp => q6 p (by
      rcases List.mem_append.mp hp with z | z
      · exact List.mem_append_left _ z
      · exact List.mem_append_right _ (List.mem_cons_of_mem _ z))⟩
  have D2 := D1.turnedL (t' := tk) (h' := h') (ch := [a, kS]) (fun b o hb e => kp b o (fun z => hb (by simp [z])) (hd2 b o (fun z => hb (by simp [z])) e)) (fun b hb => by
    rcases List.mem_cons.mp hb with z | z
    · rw [z]; exact fpa _ hya
    · have : b = kS := by simpa using z
      rw [this]; exact fpS)
  have hyl : (xs.mergeSort (kle k)).length ≤ sizeLine := by rw [(merge_perm k xs).length_eq]; exact hz
  have D3 := D2.take (t' := tk) (h' := h') (it := a) (o := .lst (xs.mergeSort (kle k))) (fun _ _ _ q => q) (fpa _ hya) ⟨hyl, _, c', ro, hn⟩
  refine h _ _ _ (merge_perm k xs) (merge_sorted k xs) (fun b o q => ?_) D3 upd_same
  have n1 : b ≠ a := fun z => by rw [z, haa] at q; cases q
  have n2 : b ≠ kS := ne_of_none q nS
  rw [upd_ne n1]
  exact hide_at (sm _ _ q) n2
def rSortKey (K : PySem.W.Frag) (sp : Sp) (f : Addr) : List V → List V → Hp → VK → Prop := fun vs zs H Q =>
  ∃ (a : Addr) (xs : List V) (k : V → Int × Int), vs = [V.ref a] ∧ zs = [V.ref f] ∧ SqL K H a xs ∧ (∀ x ∈ xs, KeyDef sp H k x) ∧
    ∀ (ys : List V) (p : Addr) (H' : Hp), ys.Perm xs → ys.Pairwise (fun x y => kle k x y = true) → Same H H' → H p = none → H' p = some (.lst ys) → Q (.ref p) H'
theorem cr_sortKey {kk : Nat} {f : Addr} {fd : FuncData} {p : Str} {sp : Sp} (F : FnOk X.prog X.w X.K X.mg X.base CX0 kk f fd [p] sp) (hr : Room (kk + 2) X.A) (hb : Binds X.K fd [p] []) : CallRK X (.builtin "sorted") [Str.ofString "key"] (rSortKey X.K sp f) := by
  intro pins s σ H vs zs us ws Q I r1 r2 h
  obtain ⟨l, xs, k, rfl, rfl, hs, hk, q⟩ := h
  obtain ⟨its, rv, hl, hz⟩ := I.list hs
  rw [Vals.ref1 r1]
  cases r2 with
  | cons rn rr =>
    cases rr
    cases rn
    have hzL : its.length ≤ sizeLine := by
      rw [← rv.length]
      exact hz
    have hfr : H (s.heap.objs.size + 1) = none := I.hok.fresh (Nat.le_succ _)
    have hsame : Same H (hide H (s.heap.objs.size + 1)) := hide_old (Same.refl H) hfr
    have I1 : Inv X pins σ (upd H (s.heap.objs.size + 1) (.lst xs)) { s with heap := copyHeap s.heap its, toks := s.toks } :=
      I.laid (fun b u e => copyHeap_old e) (Nat.le_succ _) ⟨hz, its, 0, rv, copyHeap_at s.heap its⟩
    refine sorted_of_sort hl.isList hzL (PyProof.Rows.ksk_s1 _ _) (fun _ => PyProof.Rows.ksk_l1 _ _) fun E' => ?_
    show wpAny _ _ (Builtin.«list.sort» ⟨[.ref (s.heap.objs.size + 1)], [(Str.ofString "key", .ref f)]⟩) _ _ _
    rw [PyProof.Rows.ksk_t1]
    refine key_sort F hr hb I1 upd_same (fun x hx H' Q' sm c => hk x hx H' Q' (hsame.trans (by rw [hide_upd] at sm; exact sm)) c) (fun H' hn => I.fpOk (Nat.le_succ _) hn) fun ys H' s' hp ho sm I' hy => ⟨rfl, ?_⟩
    refine ⟨.ref _, H', I', rfl, q ys _ H' hp ho (hsame.trans ?_) hfr hy⟩
    rw [hide_upd] at sm
    exact sm
end
end Gz
namespace Gz
open PySem PySem.Spec PyProof.Rows L2
/-! ## chains -/
structure Bi (mg : Str → Option Value) : Prop where
  sum : mg "sum" = none
  range : mg "range" = none
  len : mg "len" = none
  max : mg "max" = none
  min : mg "min" = none
  sorted : mg "sorted" = none
  list : mg "list" = none
  isinst : mg "isinstance" = none
  int : mg "int" = none
  bool : mg "bool" = none
  tuple : mg "tuple" = none
/-! rules with the written part told by name (for a comprehension's block) -/
section
variable {X : Cx} (K : PySem.W.Frag)
theorem ixL (h : X.K = K := by rfl) : IxR X (rIxL K) := by
  subst h
  exact ix_list
theorem ixT (h : X.K = K := by rfl) : IxR X (rIxT K) := by
  subst h
  exact ix_tup
theorem nin (h : X.K = K := by rfl) : OpR X (compareOp .NotIn) (rIn K true) := by
  subst h
  exact op_notIn_seq
theorem fldK {e : Expr} {ta : TE} {f : Str} {pos : Pos} (he : PE X e ta) (hb : attributeBase e f X.env (eval e X.env) = eval e X.env := by rfl) (h : X.K = K := by rfl) : PE X (.Attribute e f pos) (tFld K ta f) := by
  subst h
  exact pe_fld he hb
theorem tupK {es : List Expr} {k : Nat} {pos : Pos} {t : TGs} {n : Nat} (hc : X.calm = true) (h : PGs X es t) (hn : (assignEach es X.env).length = n := by rfl) (hst : (assignEach es X.env).findIdx? (·.1) = none := by rfl) (hK : X.K = K := by rfl) :
    PG X (.Tuple es k pos) (gTup K n t) := by
  subst hK
  exact pg_tup hc h hn hst
end
/-! readings, one step opened -/
section
variable {t u : TS} {D : Ends} {σ : L2.St} {H : Hp} {te ta tb : TE} {tl tr : TA} {Q : VK} {QL : List V → Hp → Prop} {g : TG} {r : R2} {rc : List V → Hp → VK → Prop} {sp : Sp} {dvs : List V} {E : XK} {tt : TT}
theorem u_seq (h : t { D with nx := u D } σ H) : tSeq t u D σ H := h
theorem u_c {v : V} (h : Q v H) : tC v σ H Q := h
theorem u_ret (h : te σ H D.rt) : tRet te D σ H := h
theorem u_if1 (h : tt σ H fun b H1 => if b = true then t { D with nx := u D } σ H1 else u D σ H1) : tSeq (tIfS tt t tNext) u D σ H := h
theorem u_set {i : Nat} (h : te σ H fun x H1 => u D (σ.set i (some x)) H1) : tSeq (tAsg te (gName i)) u D σ H := h
theorem u_next (h : D.nx σ H) : tNext D σ H := h
theorem u_drop (h : te σ H fun _ H1 => D.nx σ H1) : tDrop te D σ H := h
theorem u_asg (h : te σ H fun x H1 => g x σ H1 D.nx) : tAsg te g D σ H := h
theorem u_cb (h : tl σ H fun vs H1 => rc vs H1 Q) : tCB rc tl σ H Q := h
theorem u_cons (h : ta σ H fun x H1 => tr σ H1 fun xs H2 => QL (x :: xs) H2) : tCons ta tr σ H QL := h
theorem u_op (h : ta σ H fun x H1 => tb σ H1 fun y H2 => r x y H2 Q) : tOp r ta tb σ H Q := h
theorem u_call (h : tl σ H fun vs H1 => sp (vs ++ dvs) H1 Q E) : tCall sp dvs E tl σ H Q := h
theorem u_if (h : tt σ H fun b H1 => if b = true then t D σ H1 else u D σ H1) : tIfS tt t u D σ H := h
end
section
variable {P : Program} {w : World} {K : PySem.W.Frag} {mg : Str → Option Value} {base : Heap}
def spRise : Sp := fun vs H Q _ => ∃ (sv : V) (st : Sts) (i j : Nat), vs = [sv, .int (i : Int), .int (j : Int)] ∧ LstAt StepAt H sv st ∧ i ≤ st.length ∧ j ≤ st.length ∧ st.length ≤ 100 ∧ ∀ H', Same H H' → Q (.int (rise st i j)) H'
theorem step_at {H : Hp} {svs : List V} {st : Sts} (p : Paired (StepAt H) svs st) {k : Nat} (hk : k < st.length) : ∃ a, svs[k]? = some (.ref a) ∧ H a = some (.tup [.int st[k].1, .int st[k].2]) := by
  obtain ⟨v, h1, a, rfl, h2⟩ := paired_at p (List.getElem?_eq_getElem hk)
  exact ⟨a, h1, h2⟩
theorem map_cut (f : Int × Int → Int) (st : Sts) {i j : Nat} (hij : i ≤ j) (hj : j ≤ st.length) : ((List.range (j - i)).map fun k => f (st.getD (i + k) (0, 0))) = ((st.drop i).take (j - i)).map f := by
  apply List.ext_getElem?
  intro k
  rw [List.getElem?_map, List.getElem?_map, List.getElem?_take, List.getElem?_drop]
  by_cases h : k < j - i
  · rw [if_pos h, List.getElem?_range h, List.getElem?_eq_getElem (by omega : i + k < st.length)]
    simp [List.getD_eq_getElem?_getD, List.getElem?_eq_getElem (by omega : i + k < st.length)]
  · rw [if_neg h, List.getElem?_eq_none (by rw [List.length_range]; omega)]
    rfl
theorem ok_rise {f : Addr} {fd : FuncData} (F : Fun K "rise" "rise" sRise f fd) (B : Bi mg) : FnOk P w K mg base CX0 1 f fd ["steps", "one", "other"] spRise := by
  refine F.ok scRise (fun vs H Q E h => ?_) (fun cdv A outer s H vs Q E hr h => ?_)
  · obtain ⟨sv, st, i, j, rfl, _⟩ := h
    rfl
  obtain ⟨sv, st, i, j, rfl, ⟨sa, svs, rfl, hs, ps⟩, hi, hj, hl, q⟩ := h
  have hlv := paired_len ps
  refine ⟨_, pss_cons (ps_if (pt_cmpR op_le (pv 1) (pv 2) (nomark _))
      (pss_one (ps_ret (pe_callB (cr_sum rfl) (by rfl) B.sum (by decide +kernel) (pa_cons (pe_lc (own := [("k", 3)]) (g := gName 3) (by rfl) scRise.nd (pi_range2 (by rfl) B.range (pa_cons (pv 1) (pa_cons (pv 2) pa_nil)))
        (blkOk_by (own := [("k", 3)]) (N := ["steps", "one", "other", "k"]) (sc := defScope sRise) (by decide +kernel)) (fun _ _ _ _ _ => pg_name (i := 3) scRise.nd rfl (Or.inl rfl)) (fun _ _ _ _ _ => pts_nil)
        (fun _ _ _ _ _ => pe_ix (ixT K) (pe_ix (ixL K) (pv 0) (pv 3) (fun _ _ => rfl)) pe_int (fun _ _ => rfl))) pa_nil)))) pss_nil)
    (pss_one (ps_ret (pe_op op_sub pe_int (pe_callB (cr_sum rfl) (by rfl) B.sum (by decide +kernel) (pa_cons (pe_lc (own := [("k", 3)]) (g := gName 3) (by rfl) scRise.nd (pi_range2 (by rfl) B.range (pa_cons (pv 2) (pa_cons (pv 1) pa_nil)))
        (blkOk_by (own := [("k", 3)]) (N := ["steps", "one", "other", "k"]) (sc := defScope sRise) (by decide +kernel)) (fun _ _ _ _ _ => pg_name (i := 3) scRise.nd rfl (Or.inl rfl)) (fun _ _ _ _ _ => pts_nil)
        (fun _ _ _ _ _ => pe_ix (ixT K) (pe_ix (ixL K) (pv 0) (pv 3) (fun _ _ => rfl)) pe_int (fun _ _ => rfl))) pa_nil))))), ?_⟩
  refine u_if1 ?_
  refine ⟨_, rfl, _, rfl, _, _, rfl, rfl, _, rfl, ?_⟩
  refine ite2 (fun c => ?_) (fun c => ?_)
  · have hij : i ≤ j := by
      have := of_decide_eq_true c
      omega
    refine u_ret (u_cb (u_cons (tLc_of ?_)))
    refine ⟨_, rfl, _, rfl, _, _, rfl, ⟨by omega, by omega, by omega, by omega⟩, ?_⟩
    refine lc_rg (H1 := H) mono_int off_int (fun k => (st.getD (i + k) (0, 0)).2) (by have := len_lt (n := 100) (by decide); omega) (fun k H' N C hk s1 hN => ?_) (fun D H' nD s1 hm => ?_)
    · have hk' : i + k < st.length := by omega
      obtain ⟨a, e1, e2⟩ := step_at ps hk'
      refine ⟨rfl, ?_⟩
      refine ⟨_, rfl, _, rfl, sa, svs, _, .ref a, rfl, rfl, lst_at (s1 _ _ hs), at_of (j := i + k) (by omega) e1, a, _, _, .int st[i + k].2, rfl, rfl, tup_at (s1 _ _ e2), rfl, ?_⟩
      refine hN _ _ (Same.refl _) ?_
      show V.int _ = V.int _
      rw [List.getD_eq_getElem?_getD, List.getElem?_eq_getElem hk']
      rfl
    · obtain ⟨acc, h1, h2⟩ := hm
      have e := paired_ints h2
      subst e
      refine ⟨D, _, rfl, lst_at h1, ?_⟩
      have e2 : ((List.range ((j : Int) - (i : Int)).toNat).map fun k => (st.getD (i + k) (0, 0)).2).sum = rise st i j := by
        rw [show ((j : Int) - (i : Int)).toNat = j - i by omega, map_cut (·.2) st hij hj, rise_sum_up st hij hj]
      show Q (.int ((List.range ((j : Int) - (i : Int)).toNat).map fun k => (st.getD (i + k) (0, 0)).2).sum) H'
      rw [e2]
      exact q H' s1
  · have hij : ¬ i ≤ j := fun z => c (decide_eq_true (by omega))
    refine u_ret (u_op (u_c (u_cb (u_cons (tLc_of ?_)))))
    refine ⟨_, rfl, _, rfl, _, _, rfl, ⟨by omega, by omega, by omega, by omega⟩, ?_⟩
    refine lc_rg (H1 := H) mono_int off_int (fun k => (st.getD (j + k) (0, 0)).1) (by have := len_lt (n := 100) (by decide); omega) (fun k H' N C hk s1 hN => ?_) (fun D H' nD s1 hm => ?_)
    · have hk' : j + k < st.length := by omega
      obtain ⟨a, e1, e2⟩ := step_at ps hk'
      refine ⟨rfl, ?_⟩
      refine ⟨_, rfl, _, rfl, sa, svs, _, .ref a, rfl, rfl, lst_at (s1 _ _ hs), at_of (j := j + k) (by omega) e1, a, _, _, .int st[j + k].1, rfl, rfl, tup_at (s1 _ _ e2), rfl, ?_⟩
      refine hN _ _ (Same.refl _) ?_
      show V.int _ = V.int _
      rw [List.getD_eq_getElem?_getD, List.getElem?_eq_getElem hk']
      rfl
    · obtain ⟨acc, h1, h2⟩ := hm
      have e := paired_ints h2
      subst e
      refine ⟨D, _, rfl, lst_at h1, _, _, rfl, rfl, ?_⟩
      have e2 : 0 - ((List.range ((i : Int) - (j : Int)).toNat).map fun k => (st.getD (j + k) (0, 0)).1).sum = rise st i j := by
        rw [show ((i : Int) - (j : Int)).toNat = i - j by omega, map_cut (·.1) st (by omega) hi, rise_sum_down st hij hi]
      show Q (.int (0 - ((List.range ((i : Int) - (j : Int)).toNat).map fun k => (st.getD (j + k) (0, 0)).1).sum)) H'
      rw [e2]
      exact q H' s1
end
end Gz
namespace Gz
open PySem PySem.Spec PyProof.Rows L2
/-! ## defs as they stand, and as they are kept -/
def Tx (K : PySem.W.Frag) (mg : Str → Option Value) (x : Str) (st : Stmt) : Prop := ∃ f fd, FunD K x x (defArgs st) (defBody st) (defScope st) [] [] f fd ∧ mg x = some (.ref f)
def Df (P : Program) (w : World) (K : PySem.W.Frag) (mg : Str → Option Value) (base : Heap) (k : Nat) (x : Str) (ps : List Str) (sp : Sp) : Prop :=
  ∃ f fd, FnOk P w K mg base CX0 k f fd ps sp ∧ mg x = some (.ref f) ∧ PySem.W.keepIn K (.ref f) = true ∧ Binds K fd ps []
theorem fun_of {K : PySem.W.Frag} {x q : Str} {st : Stmt} {f : Addr} {fd : FuncData} (F : FunD K x q (defArgs st) (defBody st) (defScope st) [] [] f fd) : Fun K x q st f fd := by
  obtain ⟨⟨oc, od, dV, kV, doc, pm, an, cdv, ct, osl, h1, h2, h3, h4, h5⟩, kp⟩ := F
  rcases h4 with ⟨_, rfl⟩ | ⟨e, _⟩
  · exact ⟨⟨oc, od, kV, doc, pm, an, cdv, ct, osl, h1, h2, h3⟩, kp⟩
  · exact absurd rfl e
section
variable {P : Program} {w : World} {K : PySem.W.Frag} {mg : Str → Option Value} {base : Heap}
theorem df_mk {k : Nat} {x : Str} {st : Stmt} {ps : List Str} {sp : Sp} (T : Tx K mg x st)
    (b : ∀ (kV doc pm : Value) (an : Option Addr) (cdv ct : Value) (us : List Value), us.length = ps.length → bindArgs (PySem.W.fnOf x x (defArgs st) (defBody st) (defScope st) .none kV doc pm an cdv ct) ⟨us, []⟩ = pure (ps.zip us))
    (ok : ∀ f fd, Fun K x x st f fd → mg x = some (.ref f) → FnOk P w K mg base CX0 k f fd ps sp) : Df P w K mg base k x ps sp := by
  obtain ⟨f, fd, F, m⟩ := T
  exact ⟨f, fd, ok f fd (fun_of F) m, m, F.kp, F.bindsN b⟩
theorem Df.mono {j k : Nat} {x : Str} {ps : List Str} {sp : Sp} (D : Df P w K mg base j x ps sp) (h : j ≤ k) : Df P w K mg base k x ps sp := by
  obtain ⟨f, fd, F, r⟩ := D
  exact ⟨f, fd, F.mono h, r⟩
end
section
variable {X : Cx} {k : Nat} {x : Str} {ps : List Str} {sp : Sp} {p pos : Pos} {e : Expr} {es : List Expr} {t : TA}
theorem callD (D : Df X.prog X.w X.K X.mg X.base k x ps sp) (hr : Room k X.A) (ha : PA X (e :: es) t) (hg : Gl X x := by rfl) (hdb : (x == ("__debug__" : Str)) = false := by decide)
    (he : starEach (e :: es) X.env = (false, eval e X.env) :: starEach es X.env := by rfl) (hpl : (backTo pos (starEach es X.env)).any (·.1) = false := by rfl) : PE X (.Call (.Name x p) (e :: es) [] pos) (tCall sp [] E0 t) := by
  obtain ⟨f, fd, F, hm, hk, hb⟩ := D
  exact pe_call F hr hg hm hk hb .nil pass0 ha hdb he hpl
end
section
variable {P : Program} {w : World} {K : PySem.W.Frag} {mg : Str → Option Value} {base : Heap}
theorem df_rise (T : Tx K mg "rise" sRise) (B : Bi mg) : Df P w K mg base 1 "rise" ["steps", "one", "other"] spRise :=
  df_mk T (fun _ _ _ _ _ _ us hl => match us, hl with | [_, _, _], _ => rfl) fun _ _ F _ => ok_rise F B
def spClash : Sp := fun vs H Q _ => ∃ (sv ov tv : V) (st : Sts) (m m' : Mk), vs = [sv, ov, tv] ∧ LstAt StepAt H sv st ∧ MarkAt H ov m ∧ MarkAt H tv m' ∧ m.1 ≤ st.length ∧ m'.1 ≤ st.length ∧ st.length ≤ 100 ∧ ∀ H', Same H H' → Q (.bl (clashB st m m')) H'
theorem df_clash (T : Tx K mg "clash" sClash) (R : Df P w K mg base 1 "rise" ["steps", "one", "other"] spRise) : Df P w K mg base 2 "clash" ["steps", "one", "other"] spClash := by
  refine df_mk T (fun _ _ _ _ _ _ us hl => match us, hl with | [_, _, _], _ => rfl) fun f fd F _ => ?_
  refine F.ok scClash (fun vs H Q E h => ?_) (fun cdv A outer s H vs Q E hr h => ?_)
  · obtain ⟨sv, ov, tv, st, m, m', rfl, _⟩ := h
    rfl
  obtain ⟨sv, ov, tv, st, m, m', rfl, hs, ⟨a, b, rfl, ha, hb⟩, ⟨a', b', rfl, ha', hb'⟩, h1, h2, hl, q⟩ := h
  refine ⟨_, pss_cons (ps_set (i := 3) scClash.nd rfl (Or.inl rfl) (pe_ix ix_tup (pe_ix ix_tup (pv 1) pe_int (fun _ _ => rfl)) pe_int (fun _ _ => rfl)))
    (pss_cons (ps_set (i := 4) scClash.nd rfl (Or.inl rfl) (pe_ix ix_tup (pe_ix ix_tup (pv 2) pe_int (fun _ _ => rfl)) pe_int (fun _ _ => rfl)))
    (pss_cons (ps_if (PW.pt (pw_or (pt_cmp (pc_isN (pv 3))) (pw_or1 (pt_cmp (pc_isN (pv 4)))))) (pss_one (ps_ret pe_bl)) pss_nil)
    (pss_one (ps_ret (pe_cmpR op_gt (pv 4) (pe_op op_add (pv 3) (callD R hr (pa_cons (pv 0) (pa_cons (pe_ix ix_tup (pv 1) pe_int (fun _ _ => rfl)) (pa_cons (pe_ix ix_tup (pv 2) pe_int (fun _ _ => rfl)) pa_nil))))) (nomark _)))))), ?_⟩
  refine ⟨_, rfl, a, _, _, _, rfl, rfl, tup_at ha, rfl, b, _, _, _, rfl, rfl, tup_at hb, rfl, ?_⟩
  refine ⟨_, rfl, a', _, _, _, rfl, rfl, tup_at ha', rfl, b', _, _, _, rfl, rfl, tup_at hb', rfl, ?_⟩
  obtain ⟨t, lo, hi⟩ := m
  obtain ⟨t', lo', hi'⟩ := m'
  cases hi with
  | none =>
    refine ⟨_, rfl, _, rfl, iteT (iteT ?_)⟩
    exact q H (Same.refl _)
  | some u =>
    refine ⟨_, rfl, _, rfl, iteF ?_⟩
    cases lo' with
    | none =>
      refine ⟨_, rfl, _, rfl, iteT ?_⟩
      exact q H (Same.refl _)
    | some l =>
      refine ⟨_, rfl, _, rfl, iteF ?_⟩
      refine ⟨_, rfl, _, rfl, _, rfl, _, rfl, a, _, _, _, rfl, rfl, tup_at ha, rfl, _, rfl, a', _, _, _, rfl, rfl, tup_at ha', rfl, _, _, _, _, rfl, hs, h1, h2, hl, fun H' s1 => ?_⟩
      exact ⟨_, _, rfl, rfl, _, _, rfl, rfl, q H' s1⟩
end
end Gz
namespace Gz
open PySem PySem.Spec PyProof.Rows L2
section
variable {P : Program} {w : World} {K : PySem.W.Frag} {mg : Str → Option Value} {base : Heap}
theorem mark_at {H : Hp} {mvs : List V} {ms : List Mk} (p : Paired (MarkAt H) mvs ms) {k : Nat} (hk : k < ms.length) : ∃ v, mvs[k]? = some v ∧ MarkAt H v ms[k] := paired_at p (List.getElem?_eq_getElem hk)
def spClashing : Sp := fun vs H Q _ => ∃ (sv mv : V) (st : Sts) (ms : List Mk), vs = [sv, mv] ∧ LstAt StepAt H sv st ∧ LstAt MarkAt H mv ms ∧ (∀ m ∈ ms, m.1 ≤ st.length) ∧ st.length ≤ 100 ∧ ms.length ≤ 1000 ∧
  (NoClash st ms → ∀ H', Same H H' → Q .non H') ∧ (∀ (i j : Nat) m m' p H', ms[i]? = some m → ms[j]? = some m' → clashB st m m' = true → Same H H' → H p = none → H' p = some (.tup [.int (i : Int), .int (j : Int)]) → Q (.ref p) H')
theorem df_clashing (T : Tx K mg "clashing" sClashing) (B : Bi mg) (R : Df P w K mg base 2 "clash" ["steps", "one", "other"] spClash) : Df P w K mg base 3 "clashing" ["steps", "marks"] spClashing := by
  refine df_mk T (fun _ _ _ _ _ _ us hl => match us, hl with | [_, _], _ => rfl) fun f fd F _ => ?_
  refine F.ok scClashing (fun vs H Q E h => ?_) (fun cdv A outer s H vs Q E hr h => ?_)
  · obtain ⟨sv, mv, st, ms, rfl, _⟩ := h
    rfl
  obtain ⟨sv, mv, st, ms, rfl, hs, ⟨ma, mvs, rfl, hm, pm⟩, hb, hl, hl2, q1, q2⟩ := h
  have hlv := paired_len pm
  refine ⟨_, pss_cons (ps_for PassesOwn.never rfl (pi_range1 rfl B.range (pa_cons (pe_callB call_len_seq (by rfl) B.len PySem.boot_len (pa_cons (pv 1) pa_nil)) pa_nil)) (pg_name (i := 2) scClashing.nd rfl (Or.inl rfl))
      (pss_one (ps_for PassesOwn.never rfl (pi_range1 rfl B.range (pa_cons (pe_callB call_len_seq (by rfl) B.len PySem.boot_len (pa_cons (pv 1) pa_nil)) pa_nil)) (pg_name (i := 3) scClashing.nd rfl (Or.inl rfl))
        (pss_one (ps_if (pt_val (callD R hr (pa_cons (pv 0) (pa_cons (pe_ix ix_list (pv 1) (pv 2) (fun _ _ => rfl)) (pa_cons (pe_ix ix_list (pv 1) (pv 3) (fun _ _ => rfl)) pa_nil))))) (pss_one (ps_ret (pe_tup (pa_cons (pv 2) (pa_cons (pv 3) pa_nil))))) pss_nil)))))
    (pss_one (ps_ret pe_non)), ?_⟩
  refine ⟨_, rfl, ma, _, rfl, .inl (lst_at hm), _, rfl, by omega, by omega, ?_⟩
  refine for_range (lo := 0) (n := mvs.length) (fun i σ H' => ∃ x2 x3, σ = [some sv, some (.ref ma), x2, x3] ∧ Same H H' ∧ ∀ (i' j' : Nat) m m', i' < i → ms[i']? = some m → ms[j']? = some m' → clashB st m m' = false)
    ⟨none, none, rfl, Same.refl _, fun _ _ _ _ h => absurd h (Nat.not_lt_zero _)⟩ ?_ ?_
  · rintro i σ H' hi ⟨x2, x3, rfl, s1, c1⟩
    refine ⟨_, rfl, ma, _, rfl, .inl (lst_at (s1 _ _ hm)), _, rfl, by omega, by omega, ?_⟩
    refine for_range (lo := 0) (n := mvs.length) (fun j σ H' => ∃ x3, σ = [some sv, some (.ref ma), some (.int (0 + (i : Int))), x3] ∧ Same H H' ∧ ∀ (j' : Nat) m m', j' < j → ms[i]? = some m → ms[j']? = some m' → clashB st m m' = false)
      ⟨x3, rfl, s1, fun _ _ _ h => absurd h (Nat.not_lt_zero _)⟩ ?_ ?_
    · rintro j σ H2 hj ⟨x3, rfl, s2, c2⟩
      obtain ⟨v, e1, h1⟩ := mark_at pm (k := i) (by omega)
      obtain ⟨v', e2, h2⟩ := mark_at pm (k := j) (by omega)
      have g1 : ms[i]? = some ms[i] := List.getElem?_eq_getElem (by omega)
      have g2 : ms[j]? = some ms[j] := List.getElem?_eq_getElem (by omega)
      refine ⟨_, rfl, _, rfl, _, rfl, ma, mvs, _, v, rfl, rfl, lst_at (s2 _ _ hm), at_of (j := i) (by omega) e1, _, rfl, _, rfl, ma, mvs, _, v', rfl, rfl, lst_at (s2 _ _ hm), at_of (j := j) (by omega) e2, ?_⟩
      refine ⟨sv, v, v', st, ms[i], ms[j], rfl, mono_lst mono_step _ _ _ _ s2 hs, mono_mark _ _ _ _ s2 h1, mono_mark _ _ _ _ s2 h2, hb _ (List.getElem_mem _), hb _ (List.getElem_mem _), hl, fun H3 s3 => ⟨_, rfl, ?_⟩⟩
      refine ite2 (fun c => ?_) (fun c => ?_)
      · refine ⟨_, rfl, _, rfl, (by show 2 ≤ sizeLine; decide), fun p hp => ?_⟩
        have e0 : H p = none := (s2.trans s3).free hp
        refine q2 i j _ _ p _ g1 g2 c ((s2.trans s3).trans (same_new hp _)) e0 ?_
        rw [upd_same, Int.zero_add, Int.zero_add]
      · refine ⟨_, rfl, s2.trans s3, fun j' m m' hj' a b => ?_⟩
        by_cases e : j' = j
        · subst e
          rw [g1] at a
          rw [g2] at b
          cases a
          cases b
          exact Bool.eq_false_iff.mpr c
        · exact c2 j' m m' (by omega) a b
    · rintro σ H2 ⟨x3, rfl, s2, c2⟩
      refine ⟨_, _, rfl, s2, fun i' j' m m' hi' a b => ?_⟩
      by_cases e : i' = i
      · subst e
        have hj' : j' < mvs.length := by
          rw [hlv]
          exact (List.getElem?_eq_some_iff.mp b).1
        exact c2 j' m m' hj' a b
      · exact c1 i' j' m m' (by omega) a b
  · rintro σ H' ⟨x2, x3, rfl, s1, c1⟩
    refine q1 (fun m hm m' hm' => ?_) H' s1
    obtain ⟨i', hi', e1⟩ := List.getElem_of_mem hm
    obtain ⟨j', hj', e2⟩ := List.getElem_of_mem hm'
    exact c1 i' j' m m' (by omega) (by rw [List.getElem?_eq_getElem hi', e1]) (by rw [List.getElem?_eq_getElem hj', e2])
def spRoomAt : Sp := fun vs H Q _ => ∃ (sv mv : V) (st : Sts) (ms : List Mk) (t : Nat), vs = [sv, mv, .int (t : Int)] ∧ LstAt StepAt H sv st ∧ LstAt MarkAt H mv ms ∧ (∀ m ∈ ms, m.1 ≤ st.length) ∧ t ≤ st.length ∧ st.length ≤ 100 ∧ ms.length ≤ 1000 ∧
  ∀ s p H', IsRoom st ms t s → Same H H' → H p = none → H' p = some (.tup [vO s.1, vO s.2]) → Q (.ref p) H'
theorem df_room_at (T : Tx K mg "room_at" sRoomAt) (B : Bi mg) (R : Df P w K mg base 1 "rise" ["steps", "one", "other"] spRise) : Df P w K mg base 2 "room_at" ["steps", "marks", "turn"] spRoomAt := by
  refine df_mk T (fun _ _ _ _ _ _ us hl => match us, hl with | [_, _, _], _ => rfl) fun f fd F _ => ?_
  refine F.ok scRoomAt (fun vs H Q E h => ?_) (fun cdv A outer s H vs Q E hr h => ?_)
  · obtain ⟨sv, mv, st, ms, t, rfl, _⟩ := h
    rfl
  obtain ⟨sv, mv, st, ms, t, rfl, hs, ⟨ma, mvs, rfl, hm, pm⟩, hb, ht, hl, hl2, q⟩ := h
  have hlv := paired_len pm
  refine ⟨_, pss_cons (ps_setLc (i := 3) (own := [("at", 5), ("span", 6)]) (g := gTup K 2 (gCons (gName 5) (gCons (gName 6) gNil))) (by rfl) scRoomAt.nd rfl rfl (sw_true rfl rfl rfl (by decide +kernel)) (pi_list (pv 1))
        (blkOk_by (own := [("at", 5), ("span", 6)]) (N := ["steps", "marks", "turn", "lows", "highs", "at", "span"]) (sc := defScope sRoomAt) (by decide +kernel))
        (fun _ _ _ _ _ => tupK K rfl (pgs_cons (pg_name (i := 5) scRoomAt.nd rfl (Or.inl rfl)) (pgs_cons (pg_name (i := 6) scRoomAt.nd rfl (Or.inl rfl)) pgs_nil)))
        (fun _ _ _ _ _ => pts_one (pt_cmpR op_notN (pe_ix (ixT K) (pv 6) pe_int (fun _ _ => rfl)) pe_non (nomark _)))
        (fun _ _ _ _ _ => pe_op op_sub (pe_ix (ixT K) (pv 6) pe_int (fun _ _ => rfl)) (callD R hr (pa_cons (pv 0) (pa_cons (pv 2) (pa_cons (pv 5) pa_nil))))))
    (pss_cons (ps_setLc (i := 4) (own := [("at", 5), ("span", 6)]) (g := gTup K 2 (gCons (gName 5) (gCons (gName 6) gNil))) (by rfl) scRoomAt.nd rfl rfl (sw_true rfl rfl rfl (by decide +kernel)) (pi_list (pv 1))
        (blkOk_by (own := [("at", 5), ("span", 6)]) (N := ["steps", "marks", "turn", "lows", "highs", "at", "span"]) (sc := defScope sRoomAt) (by decide +kernel))
        (fun _ _ _ _ _ => tupK K rfl (pgs_cons (pg_name (i := 5) scRoomAt.nd rfl (Or.inl rfl)) (pgs_cons (pg_name (i := 6) scRoomAt.nd rfl (Or.inl rfl)) pgs_nil)))
        (fun _ _ _ _ _ => pts_one (pt_cmpR op_notN (pe_ix (ixT K) (pv 6) pe_int (fun _ _ => rfl)) pe_non (nomark _)))
        (fun _ _ _ _ _ => pe_op op_add (pe_ix (ixT K) (pv 6) pe_int (fun _ _ => rfl)) (callD R hr (pa_cons (pv 0) (pa_cons (pv 5) (pa_cons (pv 2) pa_nil))))))
    (pss_one (ps_ret (pe_tup (pa_cons (pe_callBK (cr_maxD rfl (hr.units)) (by rfl) B.max (by decide +kernel) (pa_cons (pv 3) pa_nil) (pk_cons pe_non pk_nil))
      (pa_cons (pe_callBK (cr_minD rfl (hr.units)) (by rfl) B.min (by decide +kernel) (pa_cons (pv 4) pa_nil) (pk_cons pe_non pk_nil)) pa_nil)))))), ?_⟩
  refine u_set (tLc_of ?_)
  refine ⟨_, rfl, ma, rfl, ⟨_, lst_at hm⟩, ?_⟩
  refine lc_fm (H1 := H) mono_int off_int (fun m : Mk => m.2.1.map fun l => l - rise st t m.1) hlv hm (len_lt (by omega)) (fun i x m H' N C hx hm0 s1 hN hC => ?_) (fun D H' nD s1 hm1 => ?_)
  · obtain ⟨t', lo, hi⟩ := m
    have hb' : t' ≤ st.length := hb _ (List.mem_of_getElem? hm0)
    obtain ⟨y, e1, a, b, rfl, ha, hb0⟩ := paired_atV pm hx
    obtain rfl : y = (t', lo, hi) := Option.some.inj (e1.symm.trans hm0)
    refine ⟨a, _, rfl, tup_at (s1 _ _ ha), rfl, _, _, rfl, _, _, rfl, rfl, rfl, ?_⟩
    cases lo with
    | none =>
      refine ⟨_, rfl, b, _, _, _, rfl, rfl, tup_at (s1 _ _ hb0), rfl, rfl, _, rfl, iteF ?_⟩
      exact hC _ rfl (Same.refl _)
    | some l =>
      refine ⟨_, rfl, b, _, _, _, rfl, rfl, tup_at (s1 _ _ hb0), rfl, rfl, _, rfl, iteT ?_⟩
      refine ⟨_, rfl, b, _, _, _, rfl, rfl, tup_at (s1 _ _ hb0), rfl, _, rfl, _, rfl, _, rfl, sv, st, t, t', rfl, mono_lst mono_step _ _ _ _ s1 hs, ht, hb', hl, fun H2 s2 => ?_⟩
      exact ⟨_, _, rfl, rfl, hN _ _ _ rfl s2 rfl⟩
  obtain ⟨acc, h1, h2⟩ := hm1
  have e := paired_ints h2
  subst e
  refine u_set (tLc_of ?_)
  refine ⟨_, rfl, ma, rfl, ⟨_, lst_at (s1 _ _ hm)⟩, ?_⟩
  refine lc_fm (H1 := H') mono_int off_int (fun m : Mk => m.2.2.map fun u => u + rise st m.1 t) hlv (s1 _ _ hm) (len_lt (by omega)) (fun i x m H3 N C hx hm0 s2 hN hC => ?_) (fun D2 H3 nD2 s2 hm2 => ?_)
  · obtain ⟨t', lo, hi⟩ := m
    have hb' : t' ≤ st.length := hb _ (List.mem_of_getElem? hm0)
    obtain ⟨y, e1, a, b, rfl, ha, hb0⟩ := paired_atV pm hx
    obtain rfl : y = (t', lo, hi) := Option.some.inj (e1.symm.trans hm0)
    have s3 := s1.trans s2
    refine ⟨a, _, rfl, tup_at (s3 _ _ ha), rfl, _, _, rfl, _, _, rfl, rfl, rfl, ?_⟩
    cases hi with
    | none =>
      refine ⟨_, rfl, b, _, _, _, rfl, rfl, tup_at (s3 _ _ hb0), rfl, rfl, _, rfl, iteF ?_⟩
      exact hC _ rfl (Same.refl _)
    | some l =>
      refine ⟨_, rfl, b, _, _, _, rfl, rfl, tup_at (s3 _ _ hb0), rfl, rfl, _, rfl, iteT ?_⟩
      refine ⟨_, rfl, b, _, _, _, rfl, rfl, tup_at (s3 _ _ hb0), rfl, _, rfl, _, rfl, _, rfl, sv, st, t', t, rfl, mono_lst mono_step _ _ _ _ s3 hs, hb', ht, hl, fun H2 s2 => ?_⟩
      exact ⟨_, _, rfl, rfl, hN _ _ _ rfl s2 rfl⟩
  obtain ⟨acc2, h3, h4⟩ := hm2
  have e := paired_ints h4
  subst e
  refine ⟨_, rfl, D, _, rfl, rfl, lst_at (s2 _ _ h1), fun lo hlo => ⟨_, rfl, D2, _, rfl, rfl, lst_at h3, fun hi hhi => ⟨(by show 2 ≤ sizeLine; decide), fun p hp => ?_⟩⟩⟩
  exact q (lo, hi) p _ ⟨hlo, hhi⟩ ((s1.trans s2).trans (same_new hp _)) ((s1.trans s2).free hp) upd_same
end
end Gz
namespace Gz
open PySem PySem.Spec PyProof.Rows L2
theorem max_uniq {xs : List Int} : ∀ {a b : Option Int}, IsMax xs a → IsMax xs b → a = b
  | none, none, _, _ => rfl
  | none, some n, h, h' => by
    have h : xs = [] := h
    rw [h] at h'
    cases h'.1
  | some n, none, h', h => by
    have h : xs = [] := h
    rw [h] at h'
    cases h'.1
  | some n, some m, h, h' => by
    have a := h.2 m h'.1
    have b := h'.2 n h.1
    rw [show n = m by omega]
theorem min_uniq {xs : List Int} : ∀ {a b : Option Int}, IsMin xs a → IsMin xs b → a = b
  | none, none, _, _ => rfl
  | none, some n, h, h' => by
    have h : xs = [] := h
    rw [h] at h'
    cases h'.1
  | some n, none, h', h => by
    have h : xs = [] := h
    rw [h] at h'
    cases h'.1
  | some n, some m, h, h' => by
    have a := h.2 m h'.1
    have b := h'.2 n h.1
    rw [show n = m by omega]
def maxO : List Int → Option Int
  | [] => none
  | n :: r => some (r.foldl max n)
def minO : List Int → Option Int
  | [] => none
  | n :: r => some (r.foldl min n)
theorem maxO_ok : ∀ xs, IsMax xs (maxO xs)
  | [] => rfl
  | n :: r => is_max n r
theorem minO_ok : ∀ xs, IsMin xs (minO xs)
  | [] => rfl
  | n :: r => is_min n r
def roomF (st : Sts) (ms : List Mk) (t : Nat) : Sn := (maxO (lowsM st ms t), minO (highsM st ms t))
theorem roomF_ok (st : Sts) (ms : List Mk) (t : Nat) : IsRoom st ms t (roomF st ms t) := ⟨maxO_ok _, minO_ok _⟩
theorem room_eq {st : Sts} {ms : List Mk} {t : Nat} {s : Sn} (h : IsRoom st ms t s) : s = roomF st ms t := by
  obtain ⟨a, b⟩ := s
  have e1 : a = maxO (lowsM st ms t) := max_uniq h.1 (maxO_ok _)
  have e2 : b = minO (highsM st ms t) := min_uniq h.2 (minO_ok _)
  rw [e1, e2]
  rfl
def roomsF (st : Sts) (ms : List Mk) : List Sn := (List.range (st.length + 1)).map (roomF st ms)
theorem roomsF_len (st : Sts) (ms : List Mk) : (roomsF st ms).length = st.length + 1 := by unfold roomsF; rw [List.length_map, List.length_range]
theorem roomsF_at {st : Sts} {ms : List Mk} {t : Nat} (h : t ≤ st.length) : (roomsF st ms)[t]? = some (roomF st ms t) := by
  unfold roomsF
  rw [List.getElem?_map, List.getElem?_range (by omega)]
  rfl
theorem roomsF_is {st : Sts} {ms : List Mk} {t : Nat} {s : Sn} (h : (roomsF st ms)[t]? = some s) : IsRoom st ms t s := by
  have hl := (List.getElem?_eq_some_iff.mp h).1
  rw [roomsF_len] at hl
  rw [roomsF_at (by omega)] at h
  cases h
  exact roomF_ok _ _ _
section
variable {P : Program} {w : World} {K : PySem.W.Frag} {mg : Str → Option Value} {base : Heap}
def spTube : Sp := fun vs H Q _ => ∃ (sv mv : V) (st : Sts) (ms : List Mk), vs = [sv, mv] ∧ LstAt StepAt H sv st ∧ LstAt MarkAt H mv ms ∧ (∀ m ∈ ms, m.1 ≤ st.length) ∧ st.length ≤ 100 ∧ ms.length ≤ 1000 ∧
  (¬ NoClash st ms → ∀ H', Same H H' → Q .non H') ∧ (NoClash st ms → ∀ p H', Same H H' → H p = none → (∃ acc, H' p = some (.lst acc) ∧ Paired (SpanAt H') acc (roomsF st ms)) → Q (.ref p) H')
theorem df_tube (T : Tx K mg "tube" sTube) (B : Bi mg) (C : Df P w K mg base 3 "clashing" ["steps", "marks"] spClashing) (R : Df P w K mg base 2 "room_at" ["steps", "marks", "turn"] spRoomAt) : Df P w K mg base 4 "tube" ["steps", "marks"] spTube := by
  refine df_mk T (fun _ _ _ _ _ _ us hl => match us, hl with | [_, _], _ => rfl) fun f fd F _ => ?_
  refine F.ok scTube (fun vs H Q E h => ?_) (fun cdv A outer s H vs Q E hr h => ?_)
  · obtain ⟨sv, mv, st, ms, rfl, _⟩ := h
    rfl
  obtain ⟨sv, mv, st, ms, rfl, hs, hm, hb, hl, hl2, q1, q2⟩ := h
  obtain ⟨sa, svs, rfl, hsa, psa⟩ := id hs
  have hls := paired_len psa
  refine ⟨_, pss_cons (ps_if (pt_cmpR op_notN (callD C hr (pa_cons (pv 0) (pa_cons (pv 1) pa_nil))) pe_non (nomark _)) (pss_one (ps_ret pe_non)) pss_nil)
    (pss_one (ps_ret (pe_lc (own := [("turn", 2)]) (g := gName 2) (by rfl) scTube.nd (pi_range1 (by rfl) B.range (pa_cons (pe_op op_add (pe_callB call_len_seq (by rfl) B.len PySem.boot_len (pa_cons (pv 0) pa_nil)) pe_int) pa_nil))
        (blkOk_by (own := [("turn", 2)]) (N := ["steps", "marks", "turn"]) (sc := defScope sTube) (by decide +kernel)) (fun _ _ _ _ _ => pg_name (i := 2) scTube.nd rfl (Or.inl rfl)) (fun _ _ _ _ _ => pts_nil)
        (fun _ _ _ _ _ => callD R (hr.mono (by decide)) (pa_cons (pv 0) (pa_cons (pv 1) (pa_cons (pv 2) pa_nil))))))), ?_⟩
  refine u_if1 ?_
  refine ⟨_, rfl, _, rfl, _, mv, st, ms, rfl, hs, hm, hb, hl, hl2, fun nc H1 s1 => ?_, fun i j m m' p H1 hi hj hc s1 np hp => ?_⟩
  · refine ⟨rfl, _, rfl, iteF ?_⟩
    refine u_ret (tLc_of ?_)
    refine ⟨_, rfl, sa, _, rfl, .inl (lst_at (s1 _ _ hsa)), _, _, rfl, rfl, _, rfl, by omega, by omega, ?_⟩
    have en : (((svs.length : Nat) : Int) + 1).toNat = st.length + 1 := by omega
    refine lc_rg (H1 := H1) mono_span off_span (roomF st ms) (len_lt (by omega)) (fun t H' N C hk s2 hN => ?_) (fun D H' nD s2 hm2 => ?_)
    · refine ⟨rfl, _, rfl, _, rfl, _, rfl, _, mv, st, ms, t, ?_, mono_lst mono_step _ _ _ _ (s1.trans s2) hs, mono_lst mono_mark _ _ _ _ (s1.trans s2) hm, hb, by omega, hl, hl2, fun s p H3 hr3 s3 np hp => ?_⟩
      · rw [Int.zero_add]; rfl
      · rw [room_eq hr3] at hp
        exact hN _ _ s3 ⟨p, rfl, hp⟩
    · rw [en] at hm2
      exact q2 nc D H' (s1.trans s2) (s1.free nD) hm2
  · refine ⟨rfl, _, rfl, iteT ?_⟩
    refine q1 (fun nc => ?_) H1 s1
    rw [nc m (List.mem_of_getElem? hi) m' (List.mem_of_getElem? hj)] at hc
    cases hc
def spCourseIn : Sp := fun vs H Q _ => ∃ (sv mv : V) (st : Sts) (ms : List Mk), vs = [sv, mv] ∧ LstAt StepAt H sv st ∧ LstAt MarkAt H mv ms ∧ (∀ m ∈ ms, m.1 ≤ st.length) ∧ st.length ≤ 100 ∧ ms.length ≤ 1000 ∧ StOk st ∧ NoClash st ms ∧
  ∀ c p H', Steps st c → (∀ m ∈ ms, Held c m) → Same H H' → H p = none → H' p = some (.lst (c.map V.int)) → Q (.ref p) H'
theorem df_course_in (T : Tx K mg "course_in" sCourseIn) (B : Bi mg) (C : Df P w K mg base 4 "tube" ["steps", "marks"] spTube) (R : Df P w K mg base 1 "rise" ["steps", "one", "other"] spRise) : Df P w K mg base 5 "course_in" ["steps", "marks"] spCourseIn := by
  refine df_mk T (fun _ _ _ _ _ _ us hl => match us, hl with | [_, _], _ => rfl) fun f fd F _ => ?_
  refine F.ok scCourseIn (fun vs H Q E h => ?_) (fun cdv A outer s H vs Q E hr h => ?_)
  · obtain ⟨sv, mv, st, ms, rfl, _⟩ := h
    rfl
  obtain ⟨sv, mv, st, ms, rfl, hs, hm, hb, hl, hl2, ok, nc, q⟩ := h
  refine ⟨_, pss_cons (ps_set (i := 2) scCourseIn.nd rfl (Or.inl rfl) (callD C hr (pa_cons (pv 0) (pa_cons (pv 1) pa_nil))))
    (pss_cons (ps_if (pt_cmpR op_isN (pv 2) pe_non (nomark _)) (pss_one (ps_ret pe_non)) pss_nil)
    (pss_cons (ps_if (pt_cmpR op_notN (pe_ix ix_tup (pe_ix ix_list (pv 2) pe_int (fun _ _ => rfl)) pe_int (fun _ _ => rfl)) pe_non (nomark _))
      (pss_one (ps_ret (pe_lc (own := [("lo", 3), ("hi", 4)]) (g := gTup K 2 (gCons (gName 3) (gCons (gName 4) gNil))) (by rfl) scCourseIn.nd (pi_list (pv 2))
        (blkOk_by (own := [("lo", 3), ("hi", 4)]) (N := ["steps", "marks", "rooms", "lo", "hi", "turn"]) (sc := defScope sCourseIn) (by decide +kernel))
        (fun _ _ _ _ _ => tupK K rfl (pgs_cons (pg_name (i := 3) scCourseIn.nd rfl (Or.inl rfl)) (pgs_cons (pg_name (i := 4) scCourseIn.nd rfl (Or.inl rfl)) pgs_nil))) (fun _ _ _ _ _ => pts_nil) (fun _ _ _ _ _ => pv 3)))) pss_nil)
    (pss_cons (ps_if (pt_cmpR op_notN (pe_ix ix_tup (pe_ix ix_list (pv 2) pe_int (fun _ _ => rfl)) pe_int (fun _ _ => rfl)) pe_non (nomark _))
      (pss_one (ps_ret (pe_lc (own := [("lo", 3), ("hi", 4)]) (g := gTup K 2 (gCons (gName 3) (gCons (gName 4) gNil))) (by rfl) scCourseIn.nd (pi_list (pv 2))
        (blkOk_by (own := [("lo", 3), ("hi", 4)]) (N := ["steps", "marks", "rooms", "lo", "hi", "turn"]) (sc := defScope sCourseIn) (by decide +kernel))
        (fun _ _ _ _ _ => tupK K rfl (pgs_cons (pg_name (i := 3) scCourseIn.nd rfl (Or.inl rfl)) (pgs_cons (pg_name (i := 4) scCourseIn.nd rfl (Or.inl rfl)) pgs_nil))) (fun _ _ _ _ _ => pts_nil) (fun _ _ _ _ _ => pv 4)))) pss_nil)
    (pss_one (ps_ret (pe_lc (own := [("turn", 5)]) (g := gName 5) (by rfl) scCourseIn.nd (pi_range1 (by rfl) B.range (pa_cons (pe_callB call_len_seq (by rfl) B.len PySem.boot_len (pa_cons (pv 2) pa_nil)) pa_nil))
        (blkOk_by (own := [("turn", 5)]) (N := ["steps", "marks", "rooms", "lo", "hi", "turn"]) (sc := defScope sCourseIn) (by decide +kernel)) (fun _ _ _ _ _ => pg_name (i := 5) scCourseIn.nd rfl (Or.inl rfl)) (fun _ _ _ _ _ => pts_nil)
        (fun _ _ _ _ _ => callD R (hr.mono (by decide)) (pa_cons (pv 0) (pa_cons pe_int (pa_cons (pv 5) pa_nil)))))))))), ?_⟩
  refine u_set ?_
  refine ⟨_, rfl, _, rfl, sv, mv, st, ms, rfl, hs, hm, hb, hl, hl2, fun h => absurd nc h, fun _ ra H1 s1 nra hra => ?_⟩
  obtain ⟨rvs, hra, prs⟩ := hra
  have hrl := paired_len prs
  rw [roomsF_len] at hrl
  refine u_if1 ?_
  refine ⟨_, rfl, rfl, _, rfl, iteF ?_⟩
  obtain ⟨v0, e0, a0, rfl, h0⟩ := paired_at prs (roomsF_at (st := st) (ms := ms) (t := 0) (Nat.zero_le _))
  refine u_if1 ?_
  refine ⟨_, rfl, ra, rvs, _, _, rfl, rfl, lst_at hra, at_of (j := 0) rfl e0, a0, _, _, _, rfl, rfl, tup_at h0, rfl, rfl, _, rfl, ?_⟩
  have isr : ∀ t s, (roomsF st ms)[t]? = some s → IsRoom st ms t s := fun t s e => roomsF_is e
  cases e1 : (roomF st ms 0).1 with
  | some l =>
    refine iteT ?_
    have all : ∀ t, t ≤ st.length → ∃ l', (roomF st ms t).1 = some l' := fun t ht => lows_some (roomF_ok st ms 0) (roomF_ok st ms t) e1
    refine u_ret (tLc_of ?_)
    refine ⟨_, rfl, ra, rfl, ⟨_, lst_at hra⟩, ?_⟩
    refine lc_fm (H1 := H1) mono_int off_int (fun s : Sn => some (s.1.getD 0)) (paired_len prs) hra (len_lt (by omega)) (fun i x s H' N C hx hs0 s2 hN hC => ?_) (fun D H' nD s2 hm2 => ?_)
    · obtain ⟨s', e2, a, rfl, ha⟩ := paired_atV prs hx
      obtain rfl : s' = s := Option.some.inj (e2.symm.trans hs0)
      have hi : i < (roomsF st ms).length := (List.getElem?_eq_some_iff.mp hs0).1
      rw [roomsF_len] at hi
      have es : s' = roomF st ms i := room_eq (isr _ _ hs0)
      obtain ⟨l', el⟩ := all i (by omega)
      refine ⟨a, _, rfl, tup_at (s2 _ _ ha), rfl, _, _, rfl, _, _, rfl, rfl, rfl, _, rfl, ?_⟩
      refine hN _ _ _ rfl (Same.refl _) ?_
      show vO s'.1 = V.int (s'.1.getD 0)
      rw [es, el]
      rfl
    · obtain ⟨acc, h1, h2⟩ := hm2
      have e := paired_ints h2
      subst e
      have ec : ∀ t, t ≤ st.length → cAt ((roomsF st ms).filterMap fun s : Sn => some (s.1.getD 0)) t = ((roomF st ms t).1.getD 0) := fun t ht => cAt_of (by
        rw [List.filterMap_eq_map', List.getElem?_map, roomsF_at ht]
        rfl)
      have g := course_low ok (roomsF_len st ms) isr nc hb (c := (roomsF st ms).filterMap fun s : Sn => some (s.1.getD 0)) (fun t ht => ⟨_, roomsF_at ht, by
        obtain ⟨l', el⟩ := all t ht
        rw [ec t ht, el]
        rfl⟩) (by rw [List.filterMap_eq_map', List.length_map, roomsF_len])
      exact q _ D H' g.1 g.2 (s1.trans s2) (s1.free nD) h1
  | none =>
    refine iteF ?_
    refine u_if1 ?_
    refine ⟨_, rfl, ra, rvs, _, _, rfl, rfl, lst_at hra, at_of (j := 0) rfl e0, a0, _, _, _, rfl, rfl, tup_at h0, rfl, rfl, _, rfl, ?_⟩
    cases e2 : (roomF st ms 0).2 with
    | some l =>
      refine iteT ?_
      have all : ∀ t, t ≤ st.length → ∃ l', (roomF st ms t).2 = some l' := fun t ht => highs_some (roomF_ok st ms 0) (roomF_ok st ms t) e2
      refine u_ret (tLc_of ?_)
      refine ⟨_, rfl, ra, rfl, ⟨_, lst_at hra⟩, ?_⟩
      refine lc_fm (H1 := H1) mono_int off_int (fun s : Sn => some (s.2.getD 0)) (paired_len prs) hra (len_lt (by omega)) (fun i x s H' N C hx hs0 s2 hN hC => ?_) (fun D H' nD s2 hm2 => ?_)
      · obtain ⟨s', e2, a, rfl, ha⟩ := paired_atV prs hx
        obtain rfl : s' = s := Option.some.inj (e2.symm.trans hs0)
        have hi : i < (roomsF st ms).length := (List.getElem?_eq_some_iff.mp hs0).1
        rw [roomsF_len] at hi
        have es : s' = roomF st ms i := room_eq (isr _ _ hs0)
        obtain ⟨l', el⟩ := all i (by omega)
        refine ⟨a, _, rfl, tup_at (s2 _ _ ha), rfl, _, _, rfl, _, _, rfl, rfl, rfl, _, rfl, ?_⟩
        refine hN _ _ _ rfl (Same.refl _) ?_
        show vO s'.2 = V.int (s'.2.getD 0)
        rw [es, el]
        rfl
      · obtain ⟨acc, h1, h2⟩ := hm2
        have e := paired_ints h2
        subst e
        have ec : ∀ t, t ≤ st.length → cAt ((roomsF st ms).filterMap fun s : Sn => some (s.2.getD 0)) t = ((roomF st ms t).2.getD 0) := fun t ht => cAt_of (by
          rw [List.filterMap_eq_map', List.getElem?_map, roomsF_at ht]
          rfl)
        have g := course_high ok (roomsF_len st ms) isr nc hb (c := (roomsF st ms).filterMap fun s : Sn => some (s.2.getD 0)) (fun t ht => ⟨_, roomsF_at ht, by
          obtain ⟨l', el⟩ := all t ht
          rw [ec t ht, el]
          rfl⟩) (by rw [List.filterMap_eq_map', List.length_map, roomsF_len])
        exact q _ D H' g.1 g.2 (s1.trans s2) (s1.free nD) h1
    | none =>
      refine iteF ?_
      refine u_ret (tLc_of ?_)
      refine ⟨_, rfl, ra, _, rfl, .inl (lst_at hra), _, rfl, by omega, by omega, ?_⟩
      have en : (((rvs.length : Nat) : Int)).toNat = st.length + 1 := by omega
      refine lc_rg (H1 := H1) mono_int off_int (fun t => rise st 0 t) (len_lt (by omega)) (fun t H' N C hk s2 hN => ?_) (fun D H' nD s2 hm2 => ?_)
      · refine ⟨rfl, _, rfl, _, rfl, sv, st, 0, t, ?_, mono_lst mono_step _ _ _ _ (s1.trans s2) hs, Nat.zero_le _, by omega, hl, fun H3 s3 => hN _ _ s3 rfl⟩
        rw [Int.zero_add]; rfl
      · rw [en] at hm2
        obtain ⟨acc, h1, h2⟩ := hm2
        have e := paired_ints h2
        subst e
        have g := course_free ok (roomF_ok st ms 0) e1 e2 (c := (List.range (st.length + 1)).map fun t => rise st 0 t) (fun t ht => cAt_of (by
          rw [List.getElem?_map, List.getElem?_range (by omega)]
          rfl)) (by rw [List.length_map, List.length_range])
        exact q _ D H' g.1 g.2 (s1.trans s2) (s1.free nD) h1
end
end Gz
namespace Gz
open PySem PySem.Spec PyProof.Rows L2
section
variable {P : Program} {w : World} {K : PySem.W.Frag} {mg : Str → Option Value} {base : Heap}
def spHolds : Sp := fun vs H Q _ => ∃ (ov : V) (s : Sn) (n : Int), vs = [ov, .int n] ∧ SpanAt H ov s ∧ Q (.bl (decide (In s n))) H
theorem df_holds (T : Tx K mg "holds" sHolds) : Df P w K mg base 1 "holds" ["one", "number"] spHolds := by
  refine df_mk T (fun _ _ _ _ _ _ us hl => match us, hl with | [_, _], _ => rfl) fun f fd F _ => ?_
  refine F.ok scHolds (fun vs H Q E h => ?_) (fun cdv A outer s H vs Q E hr h => ?_)
  · obtain ⟨ov, s, n, rfl, _⟩ := h
    rfl
  obtain ⟨ov, ⟨lo, hi⟩, n, rfl, ⟨a, rfl, ha⟩, q⟩ := h
  refine ⟨_, pss_cons (ps_if (PW.pt (pw_and (pt_cmpR op_notN (pe_ix ix_tup (pv 0) pe_int (fun _ _ => rfl)) pe_non (nomark _)) (pw_and1 (pt_cmpR op_lt (pv 1) (pe_ix ix_tup (pv 0) pe_int (fun _ _ => rfl)) (nomark _))))) (pss_one (ps_ret pe_bl)) pss_nil)
    (pss_one (ps_ret (pe_or (pe_cmpR op_isN (pe_ix ix_tup (pv 0) pe_int (fun _ _ => rfl)) pe_non (nomark _)) (pe_one (pe_cmpR op_le (pv 1) (pe_ix ix_tup (pv 0) pe_int (fun _ _ => rfl)) (nomark _)))))), ?_⟩
  have fin : loOk lo n → tOrV (tOp (fun x y H Q => y = .non ∧ Q (.bl (decide (x = .non))) H) (tOp (rIxT K) (tVar 0) (tC (.int 1))) (tC .non)) (tOp (rI0 fun i j => .bl (decide (i ≤ j))) (tVar 1) (tOp (rIxT K) (tVar 0) (tC (.int 1)))) [some (.ref a), some (.int n)] H Q := by
    intro hlo
    refine ⟨_, rfl, a, _, _, _, rfl, rfl, tup_at ha, rfl, rfl, _, rfl, ?_⟩
    cases hi with
    | none =>
      refine iteT ?_
      rw [show decide (In (lo, none) n) = true from decide_eq_true ⟨hlo, trivial⟩] at q
      exact q
    | some u =>
      refine iteF ?_
      refine ⟨_, rfl, _, rfl, a, _, _, _, rfl, rfl, tup_at ha, rfl, _, _, rfl, rfl, ?_⟩
      have e : decide (In (lo, some u) n) = decide (n ≤ u) := decide_eq_decide.mpr ⟨fun h => h.2, fun h => ⟨hlo, h⟩⟩
      rw [e] at q
      exact q
  refine u_if1 ?_
  refine ⟨_, rfl, a, _, _, _, rfl, rfl, tup_at ha, rfl, rfl, _, rfl, ?_⟩
  cases lo with
  | none =>
    refine iteF (iteF ?_)
    exact fin trivial
  | some l =>
    refine iteT ⟨_, rfl, _, rfl, a, _, _, _, rfl, rfl, tup_at ha, rfl, _, _, rfl, rfl, _, rfl, ?_⟩
    refine ite2 (fun c => ?_) (fun c => ?_)
    · have c := of_decide_eq_true c
      rw [show decide (In (some l, hi) n) = false from decide_eq_false fun z => by
        have z1 : l ≤ n := z.1
        omega] at q
      exact q
    · have c : ¬ n < l := fun z => c (decide_eq_true z)
      exact fin (show l ≤ n by omega)
def spMeet : Sp := fun vs H Q _ => ∃ (ov tv : V) (s t : Sn), vs = [ov, tv] ∧ SpanAt H ov s ∧ SpanAt H tv t ∧ Full (meetM s t) ∧ ∀ p H', Same H H' → H p = none → H' p = some (.tup [vO (meetM s t).1, vO (meetM s t).2]) → Q (.ref p) H'
theorem df_meet (T : Tx K mg "meet" sMeet) : Df P w K mg base 1 "meet" ["one", "other"] spMeet := by
  refine df_mk T (fun _ _ _ _ _ _ us hl => match us, hl with | [_, _], _ => rfl) fun f fd F _ => ?_
  refine F.ok scMeet (fun vs H Q E h => ?_) (fun cdv A outer s H vs Q E hr h => ?_)
  · obtain ⟨ov, tv, s, t, rfl, _⟩ := h
    rfl
  obtain ⟨ov, tv, ⟨lo, hi⟩, ⟨lo', hi'⟩, rfl, ⟨a, rfl, ha⟩, ⟨b, rfl, hb⟩, fu, q⟩ := h
  refine ⟨_, pss_cons (ps_set (i := 2) scMeet.nd rfl (Or.inl rfl) (pe_ix ix_tup (pv 0) pe_int (fun _ _ => rfl)))
    (Evl.pss_cut (ps_if (PW.pt (pw_or (pt_cmpR op_isN (pv 2) pe_non (nomark _)) (pw_or1 (PW.pt (pw_and (pt_cmpR op_notN (pe_ix ix_tup (pv 1) pe_int (fun _ _ => rfl)) pe_non (nomark _)) (pw_and1 (pt_cmpR op_gt (pe_ix ix_tup (pv 1) pe_int (fun _ _ => rfl)) (pv 2) (nomark _))))))))
      (pss_one (ps_set (i := 2) scMeet.nd rfl (Or.inl rfl) (pe_ix ix_tup (pv 1) pe_int (fun _ _ => rfl)))) pss_nil)
    (pss_cons (ps_set (i := 3) scMeet.nd rfl (Or.inl rfl) (pe_ix ix_tup (pv 0) pe_int (fun _ _ => rfl)))
    (Evl.pss_cut (ps_if (PW.pt (pw_or (pt_cmpR op_isN (pv 3) pe_non (nomark _)) (pw_or1 (PW.pt (pw_and (pt_cmpR op_notN (pe_ix ix_tup (pv 1) pe_int (fun _ _ => rfl)) pe_non (nomark _)) (pw_and1 (pt_cmpR op_lt (pe_ix ix_tup (pv 1) pe_int (fun _ _ => rfl)) (pv 3) (nomark _))))))))
      (pss_one (ps_set (i := 3) scMeet.nd rfl (Or.inl rfl) (pe_ix ix_tup (pv 1) pe_int (fun _ _ => rfl)))) pss_nil)
    (pss_cons (ps_if (PW.pt (pw_and (pt_cmpR op_notN (pv 2) pe_non (nomark _)) (pw_and (pt_cmpR op_notN (pv 3) pe_non (nomark _)) (pw_and1 (pt_cmpR op_gt (pv 2) (pv 3) (nomark _)))))) (pss_one (ps_ret pe_non)) pss_nil)
    (pss_one (ps_ret (pe_tup (pa_cons (pv 2) (pa_cons (pv 3) pa_nil))))))))), ?_⟩
  refine ⟨_, rfl, a, _, _, _, rfl, rfl, tup_at ha, rfl, ?_⟩
  refine ⟨fun σ H' => H' = H ∧ σ = [some (.ref a), some (.ref b), some (vO (maxLo lo lo')), none], ?_, ?_⟩
  · refine ⟨_, rfl, rfl, _, rfl, ?_⟩
    cases lo with
    | none =>
      refine iteT (iteT ?_)
      exact ⟨_, rfl, b, _, _, _, rfl, rfl, tup_at hb, rfl, rfl, rfl⟩
    | some l =>
      refine iteF ⟨_, rfl, b, _, _, _, rfl, rfl, tup_at hb, rfl, rfl, _, rfl, ?_⟩
      cases lo' with
      | none => exact iteF (iteF ⟨rfl, rfl⟩)
      | some l' =>
        refine iteT ⟨_, rfl, b, _, _, _, rfl, rfl, tup_at hb, rfl, _, rfl, _, _, rfl, rfl, _, rfl, ?_⟩
        refine ite2 (fun c => ?_) (fun c => ?_)
        · have c := of_decide_eq_true c
          refine ⟨_, rfl, b, _, _, _, rfl, rfl, tup_at hb, rfl, rfl, ?_⟩
          rw [show maxLo (some l) (some l') = some l' from if_pos c]
          rfl
        · have c : ¬ l < l' := fun z => c (decide_eq_true z)
          refine ⟨rfl, ?_⟩
          rw [show maxLo (some l) (some l') = some l from if_neg c]
          rfl
  rintro σ H' ⟨rfl, rfl⟩
  refine ⟨_, rfl, a, _, _, _, rfl, rfl, tup_at ha, rfl, ?_⟩
  refine ⟨fun σ H2 => H2 = H' ∧ σ = [some (.ref a), some (.ref b), some (vO (maxLo lo lo')), some (vO (minHi hi hi'))], ?_, ?_⟩
  · refine ⟨_, rfl, rfl, _, rfl, ?_⟩
    cases hi with
    | none =>
      refine iteT (iteT ?_)
      exact ⟨_, rfl, b, _, _, _, rfl, rfl, tup_at hb, rfl, rfl, rfl⟩
    | some l =>
      refine iteF ⟨_, rfl, b, _, _, _, rfl, rfl, tup_at hb, rfl, rfl, _, rfl, ?_⟩
      cases hi' with
      | none => exact iteF (iteF ⟨rfl, rfl⟩)
      | some l' =>
        refine iteT ⟨_, rfl, b, _, _, _, rfl, rfl, tup_at hb, rfl, _, rfl, _, _, rfl, rfl, _, rfl, ?_⟩
        refine ite2 (fun c => ?_) (fun c => ?_)
        · have c := of_decide_eq_true c
          refine ⟨_, rfl, b, _, _, _, rfl, rfl, tup_at hb, rfl, rfl, ?_⟩
          rw [show minHi (some l) (some l') = some l' from if_pos c]
          rfl
        · have c : ¬ l' < l := fun z => c (decide_eq_true z)
          refine ⟨rfl, ?_⟩
          rw [show minHi (some l) (some l') = some l from if_neg c]
          rfl
  rintro σ H2 ⟨rfl, rfl⟩
  have q' : ∀ p H', Same H2 H' → H2 p = none → H' p = some (.tup [vO (maxLo lo lo'), vO (minHi hi hi')]) → Q (.ref p) H' := q
  have fu' : ∀ l u, maxLo lo lo' = some l → minHi hi hi' = some u → l ≤ u := fu
  generalize maxLo lo lo' = x at *
  generalize minHi hi hi' = y at *
  refine u_if1 ?_
  refine ⟨_, rfl, rfl, _, rfl, ?_⟩
  cases x with
  | none =>
    refine iteF (iteF ?_)
    exact ⟨_, rfl, _, rfl, (by show 2 ≤ sizeLine; decide), fun p hp => q' p _ (same_new hp _) hp upd_same⟩
  | some l =>
    refine iteT ⟨_, rfl, rfl, _, rfl, ?_⟩
    cases y with
    | none =>
      refine iteF (iteF ?_)
      exact ⟨_, rfl, _, rfl, (by show 2 ≤ sizeLine; decide), fun p hp => q' p _ (same_new hp _) hp upd_same⟩
    | some u =>
      refine iteT ⟨_, rfl, _, rfl, _, _, rfl, rfl, _, rfl, ?_⟩
      have hlu := fu' l u rfl rfl
      rw [show decide (u < l) = false from decide_eq_false (by omega)]
      refine iteF ?_
      exact ⟨_, rfl, _, rfl, (by show 2 ≤ sizeLine; decide), fun p hp => q' p _ (same_new hp _) hp upd_same⟩
def rank (s : Sn) : Int × Int := match s.1 with
  | none => (0, 0)
  | some l => (1, l)
def spLoRank : Sp := fun vs H Q _ => ∃ (ov : V) (s : Sn), vs = [ov] ∧ SpanAt H ov s ∧ ∀ p H', Same H H' → H' p = some (.tup [.int (rank s).1, .int (rank s).2]) → Q (.ref p) H'
theorem df_lo_rank (T : Tx K mg "lo_rank" sLoRank) : Df P w K mg base 1 "lo_rank" ["one"] spLoRank := by
  refine df_mk T (fun _ _ _ _ _ _ us hl => match us, hl with | [_], _ => rfl) fun f fd F _ => ?_
  refine F.ok scLoRank (fun vs H Q E h => ?_) (fun cdv A outer s H vs Q E hr h => ?_)
  · obtain ⟨ov, s, rfl, _⟩ := h
    rfl
  obtain ⟨ov, ⟨lo, hi⟩, rfl, ⟨a, rfl, ha⟩, q⟩ := h
  refine ⟨_, pss_cons (ps_if (pt_cmpR op_isN (pe_ix ix_tup (pv 0) pe_int (fun _ _ => rfl)) pe_non (nomark _)) (pss_one (ps_ret (pe_tup (pa_cons pe_int (pa_cons pe_int pa_nil))))) pss_nil)
    (pss_one (ps_ret (pe_tup (pa_cons pe_int (pa_cons (pe_ix ix_tup (pv 0) pe_int (fun _ _ => rfl)) pa_nil))))), ?_⟩
  refine ⟨_, rfl, a, _, _, _, rfl, rfl, tup_at ha, rfl, rfl, _, rfl, ?_⟩
  cases lo with
  | none =>
    refine iteT ⟨(by show 2 ≤ sizeLine; decide), fun p hp => ?_⟩
    exact q p _ (same_new hp _) upd_same
  | some l =>
    refine iteF ⟨_, rfl, a, _, _, _, rfl, rfl, tup_at ha, rfl, (by show 2 ≤ sizeLine; decide), fun p hp => ?_⟩
    exact q p _ (same_new hp _) upd_same
def spJoins : Sp := fun vs H Q _ => ∃ (ov : V) (s : Sn) (lo : Option Int), vs = [ov, vO lo] ∧ SpanAt H ov s ∧ Q (.bl (joinsB s lo)) H
theorem df_joins (T : Tx K mg "joins" sJoins) : Df P w K mg base 1 "joins" ["last", "lo"] spJoins := by
  refine df_mk T (fun _ _ _ _ _ _ us hl => match us, hl with | [_, _], _ => rfl) fun f fd F _ => ?_
  refine F.ok scJoins (fun vs H Q E h => ?_) (fun cdv A outer s H vs Q E hr h => ?_)
  · obtain ⟨ov, s, lo, rfl, _⟩ := h
    rfl
  obtain ⟨ov, ⟨l0, hi⟩, lo, rfl, ⟨a, rfl, ha⟩, q⟩ := h
  refine ⟨_, pss_cons (ps_if (PW.pt (pw_or (pt_cmpR op_isN (pv 1) pe_non (nomark _)) (pw_or1 (pt_cmpR op_isN (pe_ix ix_tup (pv 0) pe_int (fun _ _ => rfl)) pe_non (nomark _))))) (pss_one (ps_ret pe_bl)) pss_nil)
    (pss_one (ps_ret (pe_cmpR op_le (pv 1) (pe_op op_add (pe_ix ix_tup (pv 0) pe_int (fun _ _ => rfl)) pe_int) (nomark _)))), ?_⟩
  refine ⟨_, rfl, rfl, _, rfl, ?_⟩
  cases lo with
  | none => exact iteT (iteT q)
  | some l =>
    refine iteF ⟨_, rfl, a, _, _, _, rfl, rfl, tup_at ha, rfl, rfl, _, rfl, ?_⟩
    cases hi with
    | none => exact iteT q
    | some u =>
      refine iteF ⟨_, rfl, _, rfl, a, _, _, _, rfl, rfl, tup_at ha, rfl, _, _, rfl, rfl, _, _, rfl, rfl, ?_⟩
      exact q
def spLaterEnd : Sp := fun vs H Q _ => ∃ (a b : Option Int), vs = [vO a, vO b] ∧ Q (vO (laterM a b)) H
theorem df_later_end (T : Tx K mg "later_end" sLaterEnd) (B : Bi mg) : Df P w K mg base 1 "later_end" ["one", "other"] spLaterEnd := by
  refine df_mk T (fun _ _ _ _ _ _ us hl => match us, hl with | [_, _], _ => rfl) fun f fd F _ => ?_
  refine F.ok scLaterEnd (fun vs H Q E h => ?_) (fun cdv A outer s H vs Q E hr h => ?_)
  · obtain ⟨a, b, rfl, _⟩ := h
    rfl
  obtain ⟨a, b, rfl, q⟩ := h
  refine ⟨_, pss_cons (ps_if (PW.pt (pw_or (pt_cmpR op_isN (pv 0) pe_non (nomark _)) (pw_or1 (pt_cmpR op_isN (pv 1) pe_non (nomark _))))) (pss_one (ps_ret pe_non)) pss_nil)
    (pss_one (ps_ret (pe_callB (call_max2 rfl) (by rfl) B.max (by decide +kernel) (pa_cons (pv 0) (pa_cons (pv 1) pa_nil))))), ?_⟩
  refine ⟨_, rfl, rfl, _, rfl, ?_⟩
  cases a with
  | none => exact iteT (iteT q)
  | some a =>
    refine iteF ⟨_, rfl, rfl, _, rfl, ?_⟩
    cases b with
    | none => exact iteT q
    | some b => exact iteF ⟨_, rfl, _, rfl, _, _, rfl, q⟩
end
end Gz
namespace Gz
open PySem PySem.Spec PyProof.Rows L2
/-! ## gathering -/
def oV : V → Option Int
  | .int i => some i
  | _ => none
theorem oV_vO : ∀ o, oV (vO o) = o
  | none => rfl
  | some _ => rfl
def spanOf (H : Hp) : V → Sn
  | .ref a => match H a with
    | some (.tup [x, y]) => (oV x, oV y)
    | _ => (none, none)
  | _ => (none, none)
theorem spanOf_at {H : Hp} {v : V} {s : Sn} (h : SpanAt H v s) : spanOf H v = s := by
  obtain ⟨a, rfl, e⟩ := h
  show (match H a with
    | some (.tup [x, y]) => (oV x, oV y)
    | _ => (none, none)) = s
  rw [e]
  show (oV (vO s.1), oV (vO s.2)) = s
  rw [oV_vO, oV_vO]
theorem paired_mem {H : Hp} {vs : List V} {ss : List Sn} (p : Paired (SpanAt H) vs ss) {v : V} (hv : v ∈ vs) : SpanAt H v (spanOf H v) ∧ spanOf H v ∈ ss := by
  obtain ⟨i, hi, e⟩ := List.getElem_of_mem hv
  obtain ⟨s, e1, h⟩ := paired_atV p (i := i) (v := v) (by rw [List.getElem?_eq_getElem hi, e])
  rw [spanOf_at h]
  exact ⟨h, List.mem_of_getElem? e1⟩
theorem paired_ofMem {H : Hp} : ∀ {vs : List V}, (∀ v ∈ vs, SpanAt H v (spanOf H v)) → Paired (SpanAt H) vs (vs.map (spanOf H))
  | [], _ => .nil
  | v :: vs, h => .cons (h v List.mem_cons_self) (paired_ofMem fun u hu => h u (List.mem_cons_of_mem _ hu))
theorem paired_map {H : Hp} : ∀ {vs : List V} {ss : List Sn}, Paired (SpanAt H) vs ss → vs.map (spanOf H) = ss
  | _, _, .nil => rfl
  | _, _, .cons r t => by rw [List.map_cons, spanOf_at r, paired_map t]
theorem kle_lo {k : V → Int × Int} {x y : V} {s t : Sn} (hx : k x = rank s) (hy : k y = rank t) (h : kle k x y = true) : loLe s.1 t.1 := by
  have h := of_decide_eq_true h
  rw [hx, hy] at h
  obtain ⟨lo, hi⟩ := s
  obtain ⟨lo', hi'⟩ := t
  cases lo with
  | none => trivial
  | some l =>
    cases lo' with
    | none =>
      have h : (1 : Int) < 0 ∨ (1 : Int) = 0 ∧ l ≤ 0 := h
      omega
    | some l' =>
      have h : (1 : Int) < 1 ∨ (1 : Int) = 1 ∧ l ≤ l' := h
      show l ≤ l'
      omega
theorem ixN_last (n : Nat) : ixN (n + 1) (-1) = some n := by
  unfold ixN
  rw [if_neg (by decide), if_pos (by omega)]
  congr 1
  omega
section
variable {P : Program} {w : World} {K : PySem.W.Frag} {mg : Str → Option Value} {base : Heap}
def spGathered : Sp := fun vs H Q _ => ∃ (v : V) (ss : List Sn), vs = [v] ∧ LstAt SpanAt H v ss ∧ (∀ s ∈ ss, Full s) ∧ ss.length ≤ 1000 ∧ ∀ ts p H', Gath ss ts → ts.length ≤ 1000 → Same H H' → H p = none → (∃ acc, H' p = some (.lst acc) ∧ Paired (SpanAt H') acc ts) → Q (.ref p) H'
theorem df_gathered (T : Tx K mg "gathered" sGathered) (B : Bi mg) (R : Df P w K mg base 1 "lo_rank" ["one"] spLoRank) (J : Df P w K mg base 1 "joins" ["last", "lo"] spJoins) (L : Df P w K mg base 1 "later_end" ["one", "other"] spLaterEnd) :
    Df P w K mg base 4 "gathered" ["some"] spGathered := by
  refine df_mk T (fun _ _ _ _ _ _ us hl => match us, hl with | [_], _ => rfl) fun f fd F _ => ?_
  obtain ⟨fr, frd, FR, mR, kR, bR⟩ := R
  refine F.ok scGathered (fun vs H Q E h => ?_) (fun cdv A outer s H vs Q E hr h => ?_)
  · obtain ⟨v, ss, rfl, _⟩ := h
    rfl
  obtain ⟨v, ss, rfl, ⟨sa, svs, rfl, hs, ps⟩, hfu, hlen, q⟩ := h
  have hls := paired_len ps
  have hr1 : Room 1 _ := hr.mono (by decide)
  refine ⟨_, pss_cons (ps_set (i := 1) scGathered.nd rfl (Or.inl rfl) (pe_lst pa_nil))
    (pss_cons (ps_for PassesOwn.never rfl (pi_list (pe_callBK (cr_sortKey FR hr bR) (by rfl) B.sorted (by decide +kernel) (pa_cons (pv 0) pa_nil) (pk_cons (pe_glob (v := .ref fr) rfl mR rfl) pk_nil)))
        (pg_tup rfl (pgs_cons (pg_name (i := 2) scGathered.nd rfl (Or.inl rfl)) (pgs_cons (pg_name (i := 3) scGathered.nd rfl (Or.inl rfl)) pgs_nil)))
      (pss_one (ps_if (PW.pt (pw_and (pt_cmpR op_gt (pe_callB call_len_seq (by rfl) B.len PySem.boot_len (pa_cons (pv 1) pa_nil)) pe_int (nomark _)) (pw_and1 (pt_val (callD J hr1 (pa_cons (pe_ix ix_list (pv 1) (pe_un un_neg pe_int) (fun _ _ => rfl)) (pa_cons (pv 2) pa_nil)))))))
        (pss_one (ps_asg (pe_tup (pa_cons (pe_ix ix_tup (pe_ix ix_list (pv 1) (pe_un un_neg pe_int) (fun _ _ => rfl)) pe_int (fun _ _ => rfl))
            (pa_cons (callD L hr1 (pa_cons (pe_ix ix_tup (pe_ix ix_list (pv 1) (pe_un un_neg pe_int) (fun _ _ => rfl)) pe_int (fun _ _ => rfl)) (pa_cons (pv 3) pa_nil))) pa_nil)))
          (pg_sub (pv 1) (pe_un un_neg pe_int) set_list)))
        (pss_one (ps_expr (pe_bm PySem.F.plainAttrs_list PySem.F.slot_list_append PySem.F.type_list_append mt_append (pv 1) (pa_cons (pe_tup (pa_cons (pv 2) (pa_cons (pv 3) pa_nil))) pa_nil)))))))
    (pss_one (ps_ret (pv 1)))), ?_⟩
  refine ⟨Nat.zero_le _, fun l nl => ?_⟩
  have s0 : Same H (upd H l (.lst [])) := same_new nl _
  refine ⟨_, rfl, sa, svs, (fun v => rank (spanOf H v)), rfl, rfl, lst_at (s0 _ _ hs), fun x hx H' Q' sm c => ?_, fun ys p H1 hp ho s1 np hys => ?_⟩
  · obtain ⟨h1, _⟩ := paired_mem ps hx
    exact ⟨x, spanOf H x, rfl, mono_span _ _ _ _ (s0.trans sm) h1, fun q H'' s2 hq => c q H'' s2 hq⟩
  have s01 : Same H H1 := s0.trans s1
  have hl1 : H1 l = some (.lst []) := s1 _ _ upd_same
  have nlp : l ≠ p := ne_of_none upd_same np
  have hyl : ys.length = svs.length := hp.length_eq
  have py : ∀ y ∈ ys, SpanAt H y (spanOf H y) := fun y hy => (paired_mem ps (hp.mem_iff.mp hy)).1
  have pys : Paired (SpanAt H) ys (ys.map (spanOf H)) := paired_ofMem py
  have hzf : ∀ z ∈ ys.map (spanOf H), Full z := fun z hz => by
    obtain ⟨y, hy, rfl⟩ := List.mem_map.mp hz
    exact hfu _ (paired_mem ps (hp.mem_iff.mp hy)).2
  have hzs : ∀ s ∈ ss, s ∈ ys.map (spanOf H) := fun s hs0 => by
    rw [← paired_map ps] at hs0
    obtain ⟨x, hx, rfl⟩ := List.mem_map.mp hs0
    exact List.mem_map.mpr ⟨x, hp.mem_iff.mpr hx, rfl⟩
  refine ⟨p, rfl, ⟨_, lst_at hys⟩, for_list (K := K) (a := p) (xs := ys) (fun i σ H' => ∃ (x2 x3 : Option V) (ts : List Sn) (tv : List V), σ = [some (.ref sa), some (.ref l), x2, x3] ∧ Same H H' ∧ H' p = some (.lst ys) ∧ H' l = some (.lst tv) ∧ Paired (SpanAt (hide H' l)) tv ts ∧ ts.length ≤ i ∧ GI ((ys.map (spanOf H)).take i) ts)
    ⟨none, none, [], [], rfl, s01, hys, hl1, .nil, Nat.zero_le _, GI.nil⟩ (fun i σ H' _ ⟨_, _, _, _, _, _, h, _⟩ => lst_at h) ?_ ?_⟩
  · rintro i y σ H' hy ⟨x2, x3, ts, tv, rfl, s2, hys', hl', pt, htl, gi⟩
    have hi : i < ys.length := (List.getElem?_eq_some_iff.mp hy).1
    have hym : y ∈ ys := List.mem_of_getElem? hy
    obtain ⟨a, rfl, ha⟩ := py y hym
    have hz : (ys.map (spanOf H))[i]? = some (spanOf H (.ref a)) := by rw [List.getElem?_map, hy]; rfl
    have ha' : H' a = some (.tup [vO (spanOf H (.ref a)).1, vO (spanOf H (.ref a)).2]) := s2 _ _ ha
    have srt : ∀ s ∈ (ys.map (spanOf H)).take i, loLe s.1 (spanOf H (.ref a)).1 := fun s hs0 => by
      obtain ⟨j, hj, e⟩ := List.getElem_of_mem hs0
      rw [List.length_take, List.length_map] at hj
      rw [List.getElem_take, List.getElem_map] at e
      rw [← e]
      refine kle_lo (k := fun v => rank (spanOf H v)) rfl rfl (y := .ref a) ?_
      have := List.pairwise_iff_getElem.mp ho j i (by omega) hi (by omega)
      rw [(List.getElem?_eq_some_iff.mp hy).2] at this
      exact this
    have fz : Full (spanOf H (.ref a)) := hzf _ (List.mem_of_getElem? hz)
    have et : (ys.map (spanOf H)).take (i + 1) = (ys.map (spanOf H)).take i ++ [spanOf H (.ref a)] := by rw [List.take_add_one, hz]; rfl
    generalize spanOf H (.ref a) = z at *
    refine ⟨a, _, rfl, tup_at ha', rfl, _, _, rfl, _, _, rfl, rfl, ?_⟩
    have nal : a ≠ l := off_ne hl' ha'
    have npl : p ≠ l := nlp.symm
    have app : (∀ gs, GI ((ys.map (spanOf H)).take i ++ [z]) (ts ++ [z]) → gs = ts ++ [z] → True) := fun _ _ _ => trivial
    have push : GI ((ys.map (spanOf H)).take i ++ [z]) (ts ++ [z]) → ∀ q, H' q = none → ∃ (y2 y3 : Option V) (ts' : List Sn) (tv' : List V), [some (V.ref sa), some (V.ref l), some (vO z.1), some (vO z.2)] = [some (V.ref sa), some (V.ref l), y2, y3] ∧ Same H (upd (upd H' q (.tup [vO z.1, vO z.2])) l (.lst (tv ++ [.ref q]))) ∧
        (upd (upd H' q (.tup [vO z.1, vO z.2])) l (.lst (tv ++ [.ref q]))) p = some (.lst ys) ∧ (upd (upd H' q (.tup [vO z.1, vO z.2])) l (.lst (tv ++ [.ref q]))) l = some (.lst tv') ∧ Paired (SpanAt (hide (upd (upd H' q (.tup [vO z.1, vO z.2])) l (.lst (tv ++ [.ref q]))) l)) tv' ts' ∧ ts'.length ≤ i + 1 ∧ GI ((ys.map (spanOf H)).take (i + 1)) ts' := by
      intro g q nq
      have sq : Same H' (upd H' q (.tup [vO z.1, vO z.2])) := same_new nq _
      refine ⟨_, _, ts ++ [z], tv ++ [.ref q], rfl, same_over (s2.trans sq) nl _, ?_, upd_same, ?_, ?_, ?_⟩
      · rw [upd_ne npl]
        exact sq _ _ hys'
      · rw [hide_upd]
        exact paired_snoc (paired_mono mono_span (hide_same sq) pt) ⟨q, rfl, hide_at upd_same (ne_of_none hl' nq).symm⟩
      · rw [List.length_append, List.length_singleton]
        omega
      · rw [et]
        exact g
    rcases List.eq_nil_or_concat ts with e | ⟨ini, last, e⟩
    · subst e
      have etv : tv = [] := List.eq_nil_of_length_eq_zero (paired_len pt)
      subst etv
      refine ⟨_, rfl, l, _, rfl, .inl (lst_at hl'), _, _, rfl, rfl, _, rfl, iteF (iteF ?_)⟩
      refine ⟨_, rfl, .inl ⟨rfl, _, lst_at hl'⟩, _, rfl, _, rfl, (by show 2 ≤ sizeLine; decide), fun q nq => ?_⟩
      have nql : l ≠ q := ne_of_none hl' nq
      refine ⟨l, [], _, rfl, rfl, (by rw [upd_ne nql]; exact hl'), by decide, ?_⟩
      refine push ?_ q nq
      have e0 : (ys.map (spanOf H)).take i = [] := by
        cases e1 : (ys.map (spanOf H)).take i with
        | nil => rfl
        | cons b r => exact absurd rfl (gi.some_ (by rw [e1]; simp))
      rw [e0]
      exact GI.start
    · rw [List.concat_eq_append] at e
      subst e
      obtain ⟨iv, lv, rfl, p1, p2⟩ := paired_split pt
      obtain ⟨lastV, rfl⟩ : ∃ u, lv = [u] := by
        have := paired_len p2
        match lv, this with
        | [u], _ => exact ⟨u, rfl⟩
      obtain ⟨la, rfl, hla⟩ : SpanAt (hide H' l) lastV last := by
        cases p2 with
        | cons r t => exact r
      have hla' : H' la = some (.tup [vO last.1, vO last.2]) := hide_in _ _ hla
      refine ⟨_, rfl, l, _, rfl, .inl (lst_at hl'), _, _, rfl, rfl, _, rfl, ?_⟩
      rw [show decide ((0 : Int) < (((iv ++ [V.ref la]).length : Nat) : Int)) = true from decide_eq_true (by rw [List.length_append, List.length_singleton]; omega)]
      refine iteT ⟨_, rfl, _, rfl, l, _, _, _, rfl, rfl, lst_at hl', atI_last _ _, _, rfl, ?_⟩
      refine ⟨_, last, z.1, rfl, ⟨la, rfl, hla'⟩, ?_⟩
      refine ⟨_, rfl, ?_⟩
      cases ej : joinsB last z.1 with
      | true =>
        refine iteT ?_
        refine ⟨_, rfl, _, rfl, l, _, _, _, rfl, rfl, lst_at hl', atI_last _ _, la, _, _, _, rfl, rfl, tup_at hla', rfl, ?_⟩
        refine ⟨_, rfl, _, rfl, l, _, _, _, rfl, rfl, lst_at hl', atI_last _ _, la, _, _, _, rfl, rfl, tup_at hla', rfl, _, rfl, last.2, z.2, rfl, ?_⟩
        refine ⟨(by show 2 ≤ sizeLine; decide), fun q nq => ?_⟩
        have nql : l ≠ q := ne_of_none hl' nq
        have sq : Same H' (upd H' q (.tup [vO last.1, vO (laterM last.2 z.2)])) := same_new nq _
        refine ⟨_, rfl, _, rfl, l, iv ++ [.ref la], _, iv.length, rfl, rfl, (sq _ _ hl'), ?_, ?_⟩
        · rw [List.length_append, List.length_singleton]
          exact ixN_last _
        · refine ⟨_, _, ini ++ [(last.1, laterM last.2 z.2)], iv ++ [.ref q], rfl, same_over (s2.trans sq) nl _, ?_, ?_, ?_, ?_, ?_⟩
          · rw [upd_ne npl]
            exact sq _ _ hys'
          · rw [upd_same]
            congr 2
            rw [List.set_append_right _ _ (Nat.le_refl _), Nat.sub_self]
            rfl
          · rw [hide_upd]
            exact paired_snoc (paired_mono mono_span (hide_same sq) p1) ⟨q, rfl, hide_at upd_same nql.symm⟩
          · rw [List.length_append, List.length_singleton] at htl ⊢
            omega
          · rw [et]
            exact gi.join srt
      | false =>
        refine iteF ?_
        refine ⟨_, rfl, .inl ⟨rfl, _, lst_at hl'⟩, _, rfl, _, rfl, (by show 2 ≤ sizeLine; decide), fun q nq => ?_⟩
        have nql : l ≠ q := ne_of_none hl' nq
        refine ⟨l, _, _, rfl, rfl, (by rw [upd_ne nql]; exact hl'), ?_, ?_⟩
        · have := paired_len pt
          exact len_lt (by omega)
        · exact push (gi.apart srt fz ej) q nq
  · rintro σ H' ⟨x2, x3, ts, tv, rfl, s2, hys', hl', pt, htl, gi⟩
    rw [show ys.length = (ys.map (spanOf H)).length from (List.length_map ..).symm, List.take_length] at gi
    refine ⟨_, rfl, ?_⟩
    exact q ts l H' (gi.gath hzs) (by omega) s2 nl ⟨tv, hl', paired_mono mono_span hide_in pt⟩
def spHull : Sp := fun vs H Q _ => ∃ (v : V) (ss : List Sn), vs = [v] ∧ LstAt SpanAt H v ss ∧ (∀ s ∈ ss, Full s) ∧ ss.length ≤ 1000 ∧ ss ≠ [] ∧ ∀ s p H', (∀ x ∈ ss, ∀ n, In x n → In s n) → Same H H' → H p = none → H' p = some (.tup [vO s.1, vO s.2]) → Q (.ref p) H'
theorem df_hull (T : Tx K mg "hull" sHull) (B : Bi mg) (G : Df P w K mg base 4 "gathered" ["some"] spGathered) : Df P w K mg base 5 "hull" ["some"] spHull := by
  refine df_mk T (fun _ _ _ _ _ _ us hl => match us, hl with | [_], _ => rfl) fun f fd F _ => ?_
  refine F.ok scHull (fun vs H Q E h => ?_) (fun cdv A outer s H vs Q E hr h => ?_)
  · obtain ⟨v, ss, rfl, _⟩ := h
    rfl
  obtain ⟨v, ss, rfl, hs, hfu, hlen, hne, q⟩ := h
  refine ⟨_, pss_cons (ps_set (i := 1) scHull.nd rfl (Or.inl rfl) (callD G hr (pa_cons (pv 0) pa_nil)))
    (pss_cons (ps_if (pt_cmpR op_eq (pe_callB call_len_seq (by rfl) B.len PySem.boot_len (pa_cons (pv 1) pa_nil)) pe_int (nomark _)) (pss_one (ps_ret pe_non)) pss_nil)
    (pss_one (ps_ret (pe_tup (pa_cons (pe_ix ix_tup (pe_ix ix_list (pv 1) pe_int (fun _ _ => rfl)) pe_int (fun _ _ => rfl)) (pa_cons (pe_ix ix_tup (pe_ix ix_list (pv 1) (pe_un un_neg pe_int) (fun _ _ => rfl)) pe_int (fun _ _ => rfl)) pa_nil)))))), ?_⟩
  refine ⟨_, rfl, v, ss, rfl, hs, hfu, hlen, fun ts p H1 g htl s1 np hp => ?_⟩
  obtain ⟨tv, hp, pt⟩ := hp
  have hne2 := g.some_ hne
  have hlt := paired_len pt
  refine ⟨_, rfl, p, _, rfl, .inl (lst_at hp), rfl, _, rfl, ?_⟩
  have hpos : 0 < ts.length := List.length_pos_iff.mpr hne2
  rw [show decide (V.int ((tv.length : Nat) : Int) = V.int 0) = false from decide_eq_false fun z => by
    injection z with z
    omega]
  refine iteF ?_
  obtain ⟨v0, e0, a0, rfl, h0⟩ := paired_at pt (List.getElem?_eq_getElem hpos)
  rcases List.eq_nil_or_concat ts with e | ⟨ini, last, e⟩
  · exact absurd e hne2
  rw [List.concat_eq_append] at e
  obtain ⟨first, rest, ef⟩ : ∃ f r, ts = f :: r := by
    cases ts with
    | nil => exact absurd rfl hne2
    | cons f r => exact ⟨f, r, rfl⟩
  have ef0 : ts[0] = first := by
    subst ef
    rfl
  rw [ef0] at h0
  have pt' := pt
  rw [e] at pt'
  obtain ⟨iv, lv, rfl, p1, p2⟩ := paired_split pt'
  obtain ⟨lastV, rfl⟩ : ∃ u, lv = [u] := by
    have := paired_len p2
    match lv, this with
    | [u], _ => exact ⟨u, rfl⟩
  obtain ⟨la, rfl, hla⟩ : SpanAt H1 lastV last := by
    cases p2 with
    | cons r t => exact r
  refine ⟨_, rfl, p, _, _, _, rfl, rfl, lst_at hp, at_of (j := 0) rfl e0, a0, _, _, _, rfl, rfl, tup_at h0, rfl, ?_⟩
  refine ⟨_, rfl, _, rfl, p, _, _, _, rfl, rfl, lst_at hp, atI_last _ _, la, _, _, _, rfl, rfl, tup_at hla, rfl, (by show 2 ≤ sizeLine; decide), fun r nr => ?_⟩
  exact q (first.1, last.2) r _ (fun x hx n hn => ⟨g.first first rest ef x hx n hn, g.last ini last e x hx n hn⟩) (s1.trans (same_new nr _)) (s1.free nr) upd_same
end
end Gz
namespace Gz
open PySem PySem.Spec PyProof.Rows L2
theorem u_do {te : TE} {u : TS} {D : Ends} {σ : L2.St} {H : Hp} (h : te σ H fun _ H1 => u D σ H1) : tSeq (tDrop te) u D σ H := h
/-! ## boards and claims in the heap -/
structure Bd where
  eyes : Nat
  turns : Nat
  up : Int
  down : Int
  most : Nat
abbrev Wd := (Nat × Nat) × Sn
def keyOf (p : Nat × Nat) : List Key := [.inl (p.1 : Int), .inl (p.2 : Int)]
theorem keyOf_inj {p q : Nat × Nat} (h : keyOf p = keyOf q) : p = q := by
  obtain ⟨a, b⟩ := p
  obtain ⟨c, d⟩ := q
  unfold keyOf at h
  simp only [List.cons.injEq, Sum.inl.injEq, and_true] at h
  obtain ⟨h1, h2⟩ := h
  have h1 : (a : Int) = c := h1
  have h2 : (b : Int) = d := h2
  rw [show a = c by omega, show b = d by omega]
def TellAt (H : Hp) (kv : List Key × V) (x : Wd) : Prop := kv.1 = keyOf x.1 ∧ SpanAt H kv.2 x.2
structure Flds (fs : List (Str × V)) (b : Bd) (d : Addr) : Prop where
  eyes : fs.lookup ("eyes" : Str) = some (.int (b.eyes : Int))
  turns : fs.lookup ("turns" : Str) = some (.int (b.turns : Int))
  up : fs.lookup ("up" : Str) = some (.int b.up)
  down : fs.lookup ("down" : Str) = some (.int b.down)
  most : fs.lookup ("most" : Str) = some (.int (b.most : Int))
  told : fs.lookup ("told" : Str) = some (.ref d)
  nHas : fs.lookup ("has" : Str) = none
  nTell : fs.lookup ("tell" : Str) = none
  nTellings : fs.lookup ("tellings" : Str) = none
def TabAt (H : Hp) (d : Addr) (ws : List Wd) : Prop := ∃ kvs, H d = some (.dT kvs) ∧ Paired (TellAt H) kvs ws ∧ (ws.map (·.1)).Nodup
def BoardAt (C : Addr) (b : Bd) (H : Hp) (v : V) (ws : List Wd) : Prop := ∃ a dx fs d, v = .ref a ∧ H a = some (.ins C dx fs) ∧ Flds fs b d ∧ TabAt H d ws
theorem tell_mono {H H' : Hp} (s : Same H H') : ∀ {kvs : List (List Key × V)} {ws : List Wd}, Paired (TellAt H) kvs ws → Paired (TellAt H') kvs ws
  | _, _, .nil => .nil
  | _, _, .cons ⟨a, b⟩ t => .cons ⟨a, mono_span _ _ _ _ s b⟩ (tell_mono s t)
theorem tab_mono {H H' : Hp} (s : Same H H') {d : Addr} {ws : List Wd} (h : TabAt H d ws) : TabAt H' d ws := by
  obtain ⟨kvs, h1, h2, h3⟩ := h
  exact ⟨kvs, s _ _ h1, tell_mono s h2, h3⟩
theorem mono_board {C : Addr} {b : Bd} : Mono (BoardAt C b) := fun _ _ _ _ s ⟨a, dx, fs, d, e, h, f, t⟩ => ⟨a, dx, fs, d, e, s _ _ h, f, tab_mono s t⟩
/-- the class as the top has made it -/
structure BT (K : PySem.W.Frag) (mg : Str → Option Value) (C : Addr) : Prop where
  cl : Cls K C
  nE : NoAttr K C "eyes"
  nT : NoAttr K C "turns"
  nU : NoAttr K C "up"
  nD : NoAttr K C "down"
  nM : NoAttr K C "most"
  nW : NoAttr K C "told"
  mgC : mg "Board" = some (.ref C)
def kdS : Kd → Str
  | .at => "at"
  | .step => "step"
theorem kd_step : ∀ k : Kd, decide (V.str (kdS k) = V.str "step") = decide (k = Kd.step)
  | .at => by decide +kernel
  | .step => by decide +kernel
theorem kd_at : ∀ k : Kd, k ≠ Kd.step → (!decide (V.str (kdS k) = V.str "at")) = false
  | .at, _ => by decide +kernel
  | .step, h => absurd rfl h
theorem kd_eq : ∀ k j : Kd, decide (V.str (kdS k) = V.str (kdS j)) = decide (k = j)
  | .at, .at => by decide +kernel
  | .at, .step => by decide +kernel
  | .step, .at => by decide +kernel
  | .step, .step => by decide +kernel
def PartAt (H : Hp) (v : V) (p : Pt) : Prop := ∃ a b, v = .ref a ∧ H a = some (.tup [.str (kdS p.1), .int (p.2.1 : Int), .ref b]) ∧ H b = some (.tup [vO p.2.2.1, vO p.2.2.2])
theorem mono_part : Mono PartAt := fun _ _ _ _ s ⟨a, b, e, h, h'⟩ => ⟨a, b, e, s _ _ h, s _ _ h'⟩
theorem off_part : OffT PartAt := fun _ _ _ _ _ h ⟨a, b, e, q, q'⟩ => ⟨a, b, e, hide_at q (off_ne h q), hide_at q' (off_ne h q')⟩
def PtOk (turns : Nat) (p : Pt) : Prop := match p.1 with
  | .at => p.2.1 < turns
  | .step => p.2.1 + 1 < turns
section
variable {P : Program} {w : World} {K : PySem.W.Frag} {mg : Str → Option Value} {base : Heap} {C : Addr}
def spAskParts (C : Addr) : Sp := fun vs H Q _ => ∃ (bv cv : V) (b : Bd) (ws : List Wd) (cl : List Pt), vs = [bv, cv] ∧ BoardAt C b H bv ws ∧ LstAt PartAt H cv cl ∧ (∀ p ∈ cl, PtOk b.turns p) ∧ Q .non H
theorem df_ask_parts (T : Tx K mg "ask_parts" sAskParts) (BC : BT K mg C) : Df P w K mg base 1 "ask_parts" ["board", "claim"] (spAskParts C) := by
  refine df_mk T (fun _ _ _ _ _ _ us hl => match us, hl with | [_, _], _ => rfl) fun f fd F _ => ?_
  refine F.ok scAskParts (fun vs H Q E h => ?_) (fun cdv A outer s H vs Q E hr h => ?_)
  · obtain ⟨bv, cv, b, ws, cl, rfl, _⟩ := h
    rfl
  obtain ⟨bv, cv, b, ws, cl, rfl, ⟨a, dx, fs, d, rfl, ha, fl, tb⟩, ⟨ca, cvs, rfl, hc, pc⟩, hok, q⟩ := h
  refine ⟨_, pss_one (ps_for PassesOwn.never rfl (pi_list (pv 1)) (pg_tup rfl (pgs_cons (pg_name (i := 2) scAskParts.nd rfl (Or.inl rfl)) (pgs_cons (pg_name (i := 3) scAskParts.nd rfl (Or.inl rfl)) (pgs_cons (pg_name (i := 4) scAskParts.nd rfl (Or.inl rfl)) pgs_nil))))
      (pss_cons (ps_set (i := 5) scAskParts.nd rfl (Or.inl rfl) (pe_fld (pv 0) rfl))
      (pss_cons (ps_if (pt_cmpR op_eq (pv 2) pe_str (nomark _)) (pss_one (ps_set (i := 5) scAskParts.nd rfl (Or.inl rfl) (pe_op op_sub (pe_fld (pv 0) rfl) pe_int)))
        (pss_one (ps_if (pt_cmpR op_ne (pv 2) pe_str (nomark _)) (pss_one ps_never) pss_nil)))
      (pss_one (ps_if (PW.pt (pw_or (pt_cmpR op_lt (pv 3) pe_int (nomark _)) (pw_or1 (pt_cmpR op_ge (pv 3) (pv 5) (nomark _))))) (pss_one ps_never) pss_nil))))), ?_⟩
  refine ⟨_, rfl, ca, rfl, ⟨_, lst_at hc⟩, for_list (K := K) (a := ca) (xs := cvs) (fun i σ H' => ∃ x2 x3 x4 x5, σ = [some (.ref a), some (.ref ca), x2, x3, x4, x5] ∧ H' = H) ⟨none, none, none, none, rfl, rfl⟩
    (fun i σ H' _ ⟨_, _, _, _, _, e⟩ => lst_at (by rw [e]; exact hc)) ?_ ?_⟩
  · rintro i x σ H' hx ⟨x2, x3, x4, x5, rfl, rfl⟩
    obtain ⟨p, e1, pa, pb, rfl, h1, h2⟩ := paired_atV pc hx
    have hp := hok p (List.mem_of_getElem? e1)
    obtain ⟨k, t, sn⟩ := p
    refine ⟨pa, _, rfl, tup_at h1, rfl, _, _, rfl, _, _, rfl, _, _, rfl, rfl, ?_⟩
    refine ⟨_, rfl, a, C, dx, fs, _, rfl, ha, BC.cl, BC.nT, fl.turns, ?_⟩
    refine ⟨_, rfl, rfl, _, rfl, ?_⟩
    rw [kd_step]
    cases k with
    | step =>
      refine iteT ?_
      have hp : t + 1 < b.turns := hp
      refine ⟨_, rfl, a, C, dx, fs, _, rfl, ha, BC.cl, BC.nT, fl.turns, _, _, rfl, rfl, ?_⟩
      refine ⟨_, rfl, _, _, rfl, rfl, _, rfl, ?_⟩
      rw [show decide ((t : Int) < 0) = false from decide_eq_false (by omega)]
      refine iteF ⟨_, rfl, _, rfl, _, _, rfl, rfl, _, rfl, ?_⟩
      rw [show decide ((b.turns : Int) - 1 ≤ (t : Int)) = false from decide_eq_false (by omega)]
      refine iteF ?_
      exact ⟨_, _, _, _, rfl, rfl⟩
    | «at» =>
      refine iteF ?_
      have hp : t < b.turns := hp
      refine ⟨_, rfl, rfl, _, rfl, ?_⟩
      rw [kd_at .at (by decide)]
      refine iteF ?_
      refine ⟨_, rfl, _, _, rfl, rfl, _, rfl, ?_⟩
      rw [show decide ((t : Int) < 0) = false from decide_eq_false (by omega)]
      refine iteF ⟨_, rfl, _, rfl, _, _, rfl, rfl, _, rfl, ?_⟩
      rw [show decide ((b.turns : Int) ≤ (t : Int)) = false from decide_eq_false (by omega)]
      refine iteF ?_
      exact ⟨_, _, _, _, rfl, rfl⟩
  · rintro σ H' ⟨x2, x3, x4, x5, rfl, rfl⟩
    exact q
def spInCommon : Sp := fun vs H Q _ => ∃ (bv cv : V) (s : Sn) (cl : List Pt) (k : Kd) (t : Nat) (n : Int), vs = [bv, cv, .str (kdS k), .int (t : Int)] ∧ SpanAt H bv s ∧ LstAt PartAt H cv cl ∧ In s n ∧ (∀ p ∈ cl, p.1 = k → p.2.1 = t → In p.2.2 n) ∧
  ∀ v H', Same H H' → SpanAt H' v (commonM s cl k t) → Q v H'
theorem df_in_common (T : Tx K mg "in_common" sInCommon) (M : Df P w K mg base 1 "meet" ["one", "other"] spMeet) : Df P w K mg base 2 "in_common" ["begin", "claim", "sort", "turn"] spInCommon := by
  refine df_mk T (fun _ _ _ _ _ _ us hl => match us, hl with | [_, _, _, _], _ => rfl) fun f fd F _ => ?_
  refine F.ok scInCommon (fun vs H Q E h => ?_) (fun cdv A outer s H vs Q E hr h => ?_)
  · obtain ⟨bv, cv, s, cl, k, t, n, rfl, _⟩ := h
    rfl
  obtain ⟨bv, cv, s, cl, k, t, n, rfl, hb, ⟨ca, cvs, rfl, hc, pc⟩, hn, hall, q⟩ := h
  have hcl := paired_len pc
  refine ⟨_, pss_cons (ps_set (i := 4) scInCommon.nd rfl (Or.inl rfl) (pv 0))
    (pss_cons (ps_for PassesOwn.never rfl (pi_list (pv 1)) (pg_tup rfl (pgs_cons (pg_name (i := 5) scInCommon.nd rfl (Or.inl rfl)) (pgs_cons (pg_name (i := 6) scInCommon.nd rfl (Or.inl rfl)) (pgs_cons (pg_name (i := 7) scInCommon.nd rfl (Or.inl rfl)) pgs_nil))))
      (pss_one (ps_if (PW.pt (pw_and (pt_cmpR op_eq (pv 5) (pv 2) (nomark _)) (pw_and (pt_cmpR op_eq (pv 6) (pv 3) (nomark _)) (pw_and1 (pt_cmpR op_notN (pv 4) pe_non (nomark _))))))
        (pss_one (ps_set (i := 4) scInCommon.nd rfl (Or.inl rfl) (callD M hr (pa_cons (pv 4) (pa_cons (pv 7) pa_nil))))) pss_nil)))
    (pss_one (ps_ret (pv 4)))), ?_⟩
  have stepM : ∀ (i : Nat) (p : Pt), cl[i]? = some p → commonM s (cl.take (i + 1)) k t = if p.1 = k ∧ p.2.1 = t then meetM (commonM s (cl.take i) k t) p.2.2 else commonM s (cl.take i) k t := fun i p hp => by
    unfold commonM
    rw [List.take_add_one, hp, List.foldl_append]
    rfl
  refine ⟨_, rfl, _, rfl, ca, rfl, ⟨_, lst_at hc⟩, for_list (K := K) (a := ca) (xs := cvs) (fun i σ H' => ∃ v x5 x6 x7, σ = [some bv, some (.ref ca), some (.str (kdS k)), some (.int (t : Int)), some v, x5, x6, x7] ∧ Same H H' ∧ SpanAt H' v (commonM s (cl.take i) k t))
    ⟨bv, none, none, none, rfl, Same.refl _, hb⟩ (fun i σ H' _ ⟨_, _, _, _, _, s1, _⟩ => lst_at (s1 _ _ hc)) ?_ ?_⟩
  · rintro i x σ H' hx ⟨v, x5, x6, x7, rfl, s1, hv⟩
    obtain ⟨p, e1, pa, pb, rfl, h1, h2⟩ := paired_atV pc hx
    have hpm := List.mem_of_getElem? e1
    have st := stepM i p e1
    obtain ⟨k', t', sn⟩ := p
    refine ⟨pa, _, rfl, tup_at (s1 _ _ h1), rfl, _, _, rfl, _, _, rfl, _, _, rfl, rfl, ?_⟩
    refine ⟨_, rfl, _, rfl, rfl, _, rfl, ?_⟩
    rw [kd_eq]
    by_cases ek : k' = k
    · rw [decide_eq_true ek]
      refine iteT ⟨_, rfl, _, rfl, rfl, _, rfl, ?_⟩
      by_cases et : t' = t
      · rw [show decide (V.int (t' : Int) = V.int (t : Int)) = true from decide_eq_true (by rw [et])]
        have hN : In (meetM (commonM s (cl.take i) k t) sn) n := (meet_in _ _ _).mpr ⟨(common_in k t n _ s).mpr ⟨hn, fun p hp => hall p (List.mem_of_mem_take hp)⟩, hall _ hpm ek et⟩
        rw [if_pos ⟨ek, et⟩] at st
        obtain ⟨va, rfl, hva⟩ := hv
        refine iteT ⟨_, rfl, rfl, _, rfl, iteT ?_⟩
        refine ⟨_, rfl, _, rfl, _, _, _, sn, rfl, ⟨va, rfl, hva⟩, ⟨pb, rfl, s1 _ _ h2⟩, in_full hN, fun r H2 s2 nr hr => ?_⟩
        refine ⟨_, _, _, _, rfl, s1.trans s2, ?_⟩
        rw [st]
        exact ⟨r, rfl, hr⟩
      · rw [show decide (V.int (t' : Int) = V.int (t : Int)) = false from decide_eq_false (fun z => et (by injection z with z; omega))]
        refine iteF (iteF ?_)
        refine ⟨_, _, _, _, rfl, s1, ?_⟩
        rw [st, if_neg fun z => et z.2]
        exact hv
    · rw [decide_eq_false ek]
      refine iteF (iteF ?_)
      refine ⟨_, _, _, _, rfl, s1, ?_⟩
      rw [st, if_neg fun z => ek z.1]
      exact hv
  · rintro σ H' ⟨v, x5, x6, x7, rfl, s1, hv⟩
    rw [hcl, List.take_length] at hv
    refine ⟨_, rfl, ?_⟩
    exact q v H' s1 hv
def toStep (s : Sn) : Int × Int := (s.1.getD 0, s.2.getD 0)
def stepsM (b : Bd) (cl : List Pt) : Sts := (List.range (b.turns - 1)).map fun k => toStep (commonM (some (-b.down), some b.up) cl .step k)
def goalsM (b : Bd) (cl : List Pt) : List Sn := (List.range b.turns).map fun t => commonM (none, none) cl .at t
/-- a course that a claim and the board's own paces let go -/
def Goes (b : Bd) (cl : List Pt) (c : List Int) : Prop := c.length = b.turns ∧ (∀ k, k + 1 < b.turns → -b.down ≤ cAt c (k + 1) - cAt c k ∧ cAt c (k + 1) - cAt c k ≤ b.up) ∧
  ∀ p ∈ cl, match p.1 with
    | .at => In p.2.2 (cAt c p.2.1)
    | .step => In p.2.2 (cAt c (p.2.1 + 1) - cAt c p.2.1)
def spPaces (C : Addr) : Sp := fun vs H Q _ => ∃ (bv cv : V) (b : Bd) (ws : List Wd) (cl : List Pt) (c : List Int), vs = [bv, cv] ∧ BoardAt C b H bv ws ∧ LstAt PartAt H cv cl ∧ (∀ p ∈ cl, PtOk b.turns p) ∧ 1 ≤ b.turns ∧ b.turns ≤ 12 ∧ Goes b cl c ∧
  ∀ p H', Same H H' → H p = none → (∃ acc, H' p = some (.lst acc) ∧ Paired (StepAt H') acc (stepsM b cl)) → Q (.ref p) H'
theorem df_paces (T : Tx K mg "paces" sPaces) (B : Bi mg) (BC : BT K mg C) (AP : Df P w K mg base 1 "ask_parts" ["board", "claim"] (spAskParts C)) (IC : Df P w K mg base 2 "in_common" ["begin", "claim", "sort", "turn"] spInCommon) : Df P w K mg base 3 "paces" ["board", "claim"] (spPaces C) := by
  refine df_mk T (fun _ _ _ _ _ _ us hl => match us, hl with | [_, _], _ => rfl) fun f fd F _ => ?_
  refine F.ok scPaces (fun vs H Q E h => ?_) (fun cdv A outer s H vs Q E hr h => ?_)
  · obtain ⟨bv, cv, b, ws, cl, c, rfl, _⟩ := h
    rfl
  obtain ⟨bv, cv, b, ws, cl, c, rfl, hb, hc, hok, ht1, ht2, go, q⟩ := h
  obtain ⟨a, dx, fs, d, rfl, ha, fl, tb⟩ := id hb
  refine ⟨_, pss_cons (ps_expr (callD AP (hr.mono (by decide)) (pa_cons (pv 0) (pa_cons (pv 1) pa_nil))))
    (pss_cons (ps_set (i := 2) scPaces.nd rfl (Or.inr rfl) (pe_tup (pa_cons (pe_op op_sub pe_int (pe_fld (pv 0) rfl)) (pa_cons (pe_fld (pv 0) rfl) pa_nil))))
    (pss_one (ps_ret (pe_lc (own := [("turn", 3)]) (g := gName 3) (by rfl) scPaces.nd (pi_range1 (by rfl) B.range (pa_cons (pe_op op_sub (pe_fld (pv 0) rfl) pe_int) pa_nil))
        (blkOk_by (own := [("turn", 3)]) (N := ["board", "claim", "own", "turn"]) (sc := defScope sPaces) (by decide +kernel)) (fun _ _ _ _ _ => pg_name (i := 3) scPaces.nd rfl (Or.inl rfl)) (fun _ _ _ _ _ => pts_nil)
        (fun _ _ _ _ _ => callD IC hr (pa_cons (pv 2) (pa_cons (pv 1) (pa_cons pe_str (pa_cons (pv 3) pa_nil))))))))), ?_⟩
  refine u_do ?_
  refine ⟨_, rfl, _, rfl, _, _, b, ws, cl, rfl, hb, hc, hok, ?_⟩
  refine u_set ?_
  refine ⟨_, rfl, a, C, dx, fs, _, rfl, ha, BC.cl, BC.nD, fl.down, _, _, rfl, rfl, _, rfl, a, C, dx, fs, _, rfl, ha, BC.cl, BC.nU, fl.up, (by show 2 ≤ sizeLine; decide), fun o no => ?_⟩
  have s0 : Same H (upd H o (.tup [.int (0 - b.down), .int b.up])) := same_new no _
  have ho : (upd H o (.tup [.int (0 - b.down), .int b.up])) o = some (.tup [.int (0 - b.down), .int b.up]) := upd_same
  generalize upd H o (.tup [.int (0 - b.down), .int b.up]) = H1 at *
  refine u_ret (tLc_of ?_)
  refine ⟨_, rfl, a, C, dx, fs, _, rfl, s0 _ _ ha, BC.cl, BC.nT, fl.turns, _, _, rfl, rfl, _, rfl, by omega, by omega, ?_⟩
  have en : ((b.turns : Int) - 1).toNat = b.turns - 1 := by omega
  refine lc_rg (H1 := H1) mono_step off_step (fun k => toStep (commonM (some (-b.down), some b.up) cl .step k)) (len_lt (by omega)) (fun k H' N C0 hk s2 hN => ?_) (fun D H' nD s2 hm2 => ?_)
  · have g := go.2.1 k (by omega)
    refine ⟨rfl, _, rfl, _, rfl, _, rfl, _, _, (some (-b.down), some b.up), cl, .step, k, cAt c (k + 1) - cAt c k, ?_, ⟨o, rfl, ?_⟩, mono_lst mono_part _ _ _ _ (s0.trans s2) hc, g, fun p hp h1 h2 => ?_, fun v H3 s3 hv => ?_⟩
    · rw [Int.zero_add]; rfl
    · have e := s2 _ _ ho
      rw [Int.zero_sub] at e
      exact e
    · have z := go.2.2 p hp
      obtain ⟨k', t', sn⟩ := p
      cases h1
      cases h2
      exact z
    · refine hN v H3 s3 ?_
      obtain ⟨va, rfl, hva⟩ := hv
      obtain ⟨⟨l, e1⟩, u, e2⟩ := common_some .step k cl (some (-b.down), some b.up) ⟨_, rfl⟩ ⟨_, rfl⟩
      refine ⟨va, rfl, ?_⟩
      rw [hva]
      unfold toStep
      rw [e1, e2]
      rfl
  · rw [en] at hm2
    exact q D H' (s0.trans s2) (s0.free nD) hm2
def spWanted (C : Addr) : Sp := fun vs H Q _ => ∃ (bv cv : V) (b : Bd) (ws : List Wd) (cl : List Pt) (c : List Int), vs = [bv, cv] ∧ BoardAt C b H bv ws ∧ LstAt PartAt H cv cl ∧ (∀ p ∈ cl, PtOk b.turns p) ∧ 1 ≤ b.turns ∧ b.turns ≤ 12 ∧ Goes b cl c ∧
  ∀ p H', Same H H' → H p = none → (∃ acc, H' p = some (.lst acc) ∧ Paired (SpanAt H') acc (goalsM b cl)) → Q (.ref p) H'
theorem df_wanted (T : Tx K mg "wanted" sWanted) (B : Bi mg) (BC : BT K mg C) (AP : Df P w K mg base 1 "ask_parts" ["board", "claim"] (spAskParts C)) (IC : Df P w K mg base 2 "in_common" ["begin", "claim", "sort", "turn"] spInCommon) : Df P w K mg base 3 "wanted" ["board", "claim"] (spWanted C) := by
  refine df_mk T (fun _ _ _ _ _ _ us hl => match us, hl with | [_, _], _ => rfl) fun f fd F _ => ?_
  refine F.ok scWanted (fun vs H Q E h => ?_) (fun cdv A outer s H vs Q E hr h => ?_)
  · obtain ⟨bv, cv, b, ws, cl, c, rfl, _⟩ := h
    rfl
  obtain ⟨bv, cv, b, ws, cl, c, rfl, hb, hc, hok, ht1, ht2, go, q⟩ := h
  obtain ⟨a, dx, fs, d, rfl, ha, fl, tb⟩ := id hb
  refine ⟨_, pss_cons (ps_expr (callD AP (hr.mono (by decide)) (pa_cons (pv 0) (pa_cons (pv 1) pa_nil))))
    (pss_one (ps_ret (pe_lc (own := [("turn", 2)]) (g := gName 2) (by rfl) scWanted.nd (pi_range1 (by rfl) B.range (pa_cons (pe_fld (pv 0) rfl) pa_nil))
        (blkOk_by (own := [("turn", 2)]) (N := ["board", "claim", "turn"]) (sc := defScope sWanted) (by decide +kernel)) (fun _ _ _ _ _ => pg_name (i := 2) scWanted.nd rfl (Or.inl rfl)) (fun _ _ _ _ _ => pts_nil)
        (fun _ _ _ _ _ => callD IC hr (pa_cons (pe_tup (pa_cons pe_non (pa_cons pe_non pa_nil))) (pa_cons (pv 1) (pa_cons pe_str (pa_cons (pv 2) pa_nil)))))))), ?_⟩
  refine u_do ?_
  refine ⟨_, rfl, _, rfl, _, _, b, ws, cl, rfl, hb, hc, hok, ?_⟩
  refine u_ret (tLc_of ?_)
  refine ⟨_, rfl, a, C, dx, fs, _, rfl, ha, BC.cl, BC.nT, fl.turns, _, rfl, by omega, by omega, ?_⟩
  have en : (b.turns : Int).toNat = b.turns := by omega
  refine lc_rg (H1 := H) mono_span off_span (fun t => commonM (none, none) cl .at t) (len_lt (by omega)) (fun k H' N C0 hk s2 hN => ?_) (fun D H' nD s2 hm2 => ?_)
  · refine ⟨rfl, (by show 2 ≤ sizeLine; decide), fun o no => ?_⟩
    have s3 : Same H' (upd H' o (.tup [.non, .non])) := same_new no _
    refine ⟨_, rfl, _, rfl, _, _, (none, none), cl, .at, k, cAt c k, ?_, ⟨o, rfl, upd_same⟩, mono_lst mono_part _ _ _ _ (s2.trans s3) hc, ⟨trivial, trivial⟩, fun p hp h1 h2 => ?_, fun v H3 s4 hv => ?_⟩
    · rw [Int.zero_add]; rfl
    · have z := go.2.2 p hp
      obtain ⟨k', t', sn⟩ := p
      cases h1
      cases h2
      exact z
    · exact hN v H3 (s3.trans s4) hv
  · rw [en] at hm2
    exact q D H' s2 nD hm2
end
end Gz
namespace Gz
open PySem PySem.Spec PyProof.Rows L2
/-! ## methods, as they stand and as they are kept -/
def Tm (K : PySem.W.Frag) (C : Addr) (m q : Str) (st : Stmt) : Prop := ∃ f fd, FunD K m q (defArgs st) (defBody st) (defScope st) [] [] f fd ∧ Meth K C m f
def Dm (P : Program) (w : World) (K : PySem.W.Frag) (mg : Str → Option Value) (base : Heap) (C : Addr) (k : Nat) (m : Str) (ps : List Str) (sp : Sp) : Prop :=
  ∃ f fd, FnOk P w K mg base CX0 k f fd ps sp ∧ Meth K C m f ∧ Binds K fd ps []
def Ti (K : PySem.W.Frag) (C : Addr) (st : Stmt) : Prop := ∃ f fd, FunD K "__init__" "Board.__init__" (defArgs st) (defBody st) (defScope st) [] [] f fd ∧ L2.Mk K C f
def Di (P : Program) (w : World) (K : PySem.W.Frag) (mg : Str → Option Value) (base : Heap) (C : Addr) (k : Nat) (ps : List Str) (sp : Sp) : Prop :=
  ∃ f fd, FnOk P w K mg base CX0 k f fd ps sp ∧ L2.Mk K C f ∧ Binds K fd ps []
section
variable {P : Program} {w : World} {K : PySem.W.Frag} {mg : Str → Option Value} {base : Heap} {C : Addr}
theorem dm_mk {k : Nat} {x q : Str} {st : Stmt} {ps : List Str} {sp : Sp} (T : Tm K C x q st)
    (b : ∀ (kV doc pm : Value) (an : Option Addr) (cdv ct : Value) (us : List Value), us.length = ps.length → bindArgs (PySem.W.fnOf x q (defArgs st) (defBody st) (defScope st) .none kV doc pm an cdv ct) ⟨us, []⟩ = pure (ps.zip us))
    (ok : ∀ f fd, Fun K x q st f fd → FnOk P w K mg base CX0 k f fd ps sp) : Dm P w K mg base C k x ps sp := by
  obtain ⟨f, fd, F, m⟩ := T
  exact ⟨f, fd, ok f fd (fun_of F), m, F.bindsN b⟩
theorem di_mk {k : Nat} {st : Stmt} {ps : List Str} {sp : Sp} (T : Ti K C st)
    (b : ∀ (kV doc pm : Value) (an : Option Addr) (cdv ct : Value) (us : List Value), us.length = ps.length → bindArgs (PySem.W.fnOf "__init__" "Board.__init__" (defArgs st) (defBody st) (defScope st) .none kV doc pm an cdv ct) ⟨us, []⟩ = pure (ps.zip us))
    (ok : ∀ f fd, Fun K "__init__" "Board.__init__" st f fd → FnOk P w K mg base CX0 k f fd ps sp) : Di P w K mg base C k ps sp := by
  obtain ⟨f, fd, F, m⟩ := T
  exact ⟨f, fd, ok f fd (fun_of F), m, F.bindsN b⟩
/-! ## tables with pairs as keys -/
def putW (ws : List Wd) (k : Nat × Nat) (s : Sn) : List Wd := if (ws.any fun x => decide (x.1 = k)) = true then ws.map (fun x => if x.1 = k then (x.1, s) else x) else ws ++ [(k, s)]
theorem any_key {H : Hp} {k : Nat × Nat} : ∀ {kvs : List (List Key × V)} {ws : List Wd}, Paired (TellAt H) kvs ws → (kvs.any fun kv => decide (kv.1 = keyOf k)) = ws.any fun x => decide (x.1 = k)
  | _, _, .nil => rfl
  | _, _, .cons (a := a) (b := b) r t => by
    rw [List.any_cons, List.any_cons, any_key t, r.1]
    congr 1
    exact decide_eq_decide.mpr ⟨keyOf_inj, fun e => by rw [e]⟩
theorem map_key {H : Hp} {k : Nat × Nat} {v : V} {s : Sn} (hv : SpanAt H v s) : ∀ {kvs : List (List Key × V)} {ws : List Wd}, Paired (TellAt H) kvs ws → Paired (TellAt H) (kvs.map fun kv => if kv.1 = keyOf k then (kv.1, v) else kv) (ws.map fun x => if x.1 = k then (x.1, s) else x)
  | _, _, .nil => .nil
  | _, _, .cons (a := a) (b := b) r t => by
    rw [List.map_cons, List.map_cons]
    refine .cons ?_ (map_key hv t)
    by_cases e : b.1 = k
    · rw [if_pos e, if_pos (by rw [r.1, e])]
      exact ⟨r.1, hv⟩
    · rw [if_neg e, if_neg fun z => e (keyOf_inj (r.1.symm.trans z))]
      exact r
theorem put_told {H : Hp} {kvs : List (List Key × V)} {ws : List Wd} (p : Paired (TellAt H) kvs ws) {k : Nat × Nat} {v : V} {s : Sn} (hv : SpanAt H v s) : Paired (TellAt H) (putK kvs (keyOf k) v) (putW ws k s) := by
  unfold putK putW
  rw [any_key p]
  split
  · exact map_key hv p
  · exact paired_snoc p ⟨rfl, hv⟩
theorem putW_keys (ws : List Wd) (k : Nat × Nat) (s : Sn) (h : (ws.map (·.1)).Nodup) : ((putW ws k s).map (·.1)).Nodup := by
  unfold putW
  split
  · rw [List.map_map]
    have e : ((fun x : Wd => x.1) ∘ fun x => if x.1 = k then (x.1, s) else x) = fun x : Wd => x.1 := by
      funext x
      show (if x.1 = k then (x.1, s) else x).1 = x.1
      split <;> rfl
    rw [e]
    exact h
  · rename_i hn
    rw [List.map_append]
    refine List.nodup_append.mpr ⟨h, by simp, ?_⟩
    intro a ha b hb e
    have hb : b = k := by simpa using hb
    obtain ⟨x, hx, rfl⟩ := List.mem_map.mp ha
    exact hn (List.any_eq_true.mpr ⟨x, hx, decide_eq_true (e.trans hb)⟩)
theorem putW_len (ws : List Wd) (k : Nat × Nat) (s : Sn) : (putW ws k s).length ≤ ws.length + 1 := by
  unfold putW
  split
  · rw [List.length_map]
    exact Nat.le_succ _
  · rw [List.length_append, List.length_singleton]
    exact Nat.le_refl _
theorem mem_putW {ws : List Wd} {k : Nat × Nat} {s : Sn} {x : Wd} (h : x ∈ putW ws k s) : (x ∈ ws ∧ x.1 ≠ k) ∨ x = (k, s) := by
  unfold putW at h
  split at h
  · obtain ⟨y, hy, e⟩ := List.mem_map.mp h
    by_cases z : y.1 = k
    · rw [if_pos z, z] at e
      exact .inr e.symm
    · rw [if_neg z] at e
      rw [← e]
      exact .inl ⟨hy, z⟩
  · rename_i hn
    rcases List.mem_append.mp h with z | z
    · refine .inl ⟨z, fun e => hn (List.any_eq_true.mpr ⟨x, z, decide_eq_true e⟩)⟩
    · exact .inr (by simpa using z)
theorem valV_told {H : Hp} {k : Nat × Nat} : ∀ {kvs : List (List Key × V)} {ws : List Wd}, Paired (TellAt H) kvs ws → ∀ {s : Sn}, (k, s) ∈ ws → (ws.map (·.1)).Nodup → ∃ v, valV kvs (keyOf k) = some v ∧ SpanAt H v s
  | _, _, .nil, _, h, _ => by cases h
  | _, _, .cons (a := a) (b := b) (l₁ := l1) (l₂ := l2) r t, s, h, nd => by
    have nd : (b.1 :: l2.map (·.1)).Nodup := nd
    obtain ⟨n1, n2⟩ := List.nodup_cons.mp nd
    by_cases e : b.1 = k
    · have hb : (k, s) = b := by
        rcases List.mem_cons.mp h with z | z
        · exact z
        · exact absurd (List.mem_map.mpr ⟨_, z, e.symm⟩) n1
      refine ⟨a.2, ?_, ?_⟩
      · unfold valV
        rw [List.find?_cons_of_pos (by rw [decide_eq_true_eq, r.1, e])]
        rfl
      · have q := r.2
        rw [← hb] at q
        exact q
    · have hm : (k, s) ∈ l2 := by
        rcases List.mem_cons.mp h with z | z
        · exact absurd (congrArg Prod.fst z).symm e
        · exact z
      obtain ⟨v, h1, h2⟩ := valV_told t hm n2
      refine ⟨v, ?_, h2⟩
      unfold valV at h1 ⊢
      rw [List.find?_cons_of_neg (by rw [decide_eq_true_eq, r.1]; exact fun z => e (keyOf_inj z))]
      exact h1
theorem putF_len (f : Str) (v : V) : ∀ fs : List (Str × V), (putF f v fs).length ≤ fs.length + 1
  | [] => Nat.le_refl _
  | (g, x) :: r => by
    show (if g = f then (g, v) :: r else (g, x) :: putF f v r).length ≤ _
    split
    · exact Nat.le_succ _
    · exact Nat.succ_le_succ (putF_len f v r)
def bfs (b : Bd) (d : Addr) : List (Str × V) := putF "told" (.ref d) (putF "most" (.int (b.most : Int)) (putF "down" (.int b.down) (putF "up" (.int b.up) (putF "turns" (.int (b.turns : Int)) (putF "eyes" (.int (b.eyes : Int)) [])))))
theorem bfs_flds (b : Bd) (d : Addr) : Flds (bfs b d) b d where
  eyes := by
    unfold bfs
    rw [lookup_putF, if_neg (by decide +kernel), lookup_putF, if_neg (by decide +kernel), lookup_putF, if_neg (by decide +kernel), lookup_putF, if_neg (by decide +kernel), lookup_putF, if_neg (by decide +kernel), lookup_putF, if_pos rfl]
  turns := by
    unfold bfs
    rw [lookup_putF, if_neg (by decide +kernel), lookup_putF, if_neg (by decide +kernel), lookup_putF, if_neg (by decide +kernel), lookup_putF, if_neg (by decide +kernel), lookup_putF, if_pos rfl]
  up := by
    unfold bfs
    rw [lookup_putF, if_neg (by decide +kernel), lookup_putF, if_neg (by decide +kernel), lookup_putF, if_neg (by decide +kernel), lookup_putF, if_pos rfl]
  down := by
    unfold bfs
    rw [lookup_putF, if_neg (by decide +kernel), lookup_putF, if_neg (by decide +kernel), lookup_putF, if_pos rfl]
  most := by
    unfold bfs
    rw [lookup_putF, if_neg (by decide +kernel), lookup_putF, if_pos rfl]
  told := by
    unfold bfs
    rw [lookup_putF, if_pos rfl]
  nHas := by
    unfold bfs
    rw [lookup_putF, if_neg (by decide +kernel), lookup_putF, if_neg (by decide +kernel), lookup_putF, if_neg (by decide +kernel), lookup_putF, if_neg (by decide +kernel), lookup_putF, if_neg (by decide +kernel), lookup_putF, if_neg (by decide +kernel)]
    rfl
  nTell := by
    unfold bfs
    rw [lookup_putF, if_neg (by decide +kernel), lookup_putF, if_neg (by decide +kernel), lookup_putF, if_neg (by decide +kernel), lookup_putF, if_neg (by decide +kernel), lookup_putF, if_neg (by decide +kernel), lookup_putF, if_neg (by decide +kernel)]
    rfl
  nTellings := by
    unfold bfs
    rw [lookup_putF, if_neg (by decide +kernel), lookup_putF, if_neg (by decide +kernel), lookup_putF, if_neg (by decide +kernel), lookup_putF, if_neg (by decide +kernel), lookup_putF, if_neg (by decide +kernel), lookup_putF, if_neg (by decide +kernel)]
    rfl
def BOk (b : Bd) : Prop := 1 ≤ b.eyes ∧ b.eyes ≤ 7 ∧ 1 ≤ b.turns ∧ b.turns ≤ 12 ∧ 0 ≤ b.up ∧ 0 ≤ b.down ∧ b.most ≤ b.eyes
def spInit (C : Addr) : Sp := fun vs H Q _ => ∃ (p dx : Addr) (b : Bd), vs = [.ref p, .int (b.eyes : Int), .int (b.turns : Int), .int b.up, .int b.down, .int (b.most : Int)] ∧ BOk b ∧ H p = some (.ins C dx []) ∧
  ∀ H' d, H d = none → H' p = some (.ins C dx (bfs b d)) → H' d = some (.dT []) → (∀ x o, H x = some o → x ≠ p → H' x = some o) → Q .non H'
theorem di_init (T : Ti K C sInit) (BC : BT K mg C) (hE : ∃ t, mg "EYES" = some (.int 7 t)) (hT : ∃ t, mg "TURNS" = some (.int 12 t)) : Di P w K mg base C 1 ["self", "eyes", "turns", "up", "down", "most"] (spInit C) := by
  refine di_mk T (fun _ _ _ _ _ _ us hl => match us, hl with | [_, _, _, _, _, _], _ => rfl) fun f fd F => ?_
  refine F.ok scInit (fun vs H Q E h => ?_) (fun cdv A outer s H vs Q E hr h => ?_)
  · obtain ⟨p, dx, b, rfl, _⟩ := h
    rfl
  obtain ⟨p, dx, b, rfl, ⟨o1, o2, o3, o4, o5, o6, o7⟩, hp, q⟩ := h
  obtain ⟨tE, hE⟩ := hE
  obtain ⟨tT, hT⟩ := hT
  refine ⟨_, pss_cons (ps_if (PW.pt (pw_or (pt_cmpR op_lt (pv 1) pe_int (nomark _)) (pw_or (pt_cmpR op_gt (pv 1) (pe_glob (v := .int 7) rfl hE ⟨_, rfl⟩) (nomark _)) (pw_or (pt_cmpR op_lt (pv 2) pe_int (nomark _)) (pw_or1 (pt_cmpR op_gt (pv 2) (pe_glob (v := .int 12) rfl hT ⟨_, rfl⟩) (nomark _))))))) (pss_one ps_never) pss_nil)
    (pss_cons (ps_if (PW.pt (pw_or (pt_cmpR op_lt (pv 3) pe_int (nomark _)) (pw_or (pt_cmpR op_lt (pv 4) pe_int (nomark _)) (pw_or (pt_cmpR op_lt (pv 5) pe_int (nomark _)) (pw_or1 (pt_cmpR op_gt (pv 5) (pv 1) (nomark _))))))) (pss_one ps_never) pss_nil)
    (pss_cons (ps_fld (pv 0) (pv 1) rfl) (pss_cons (ps_fld (pv 0) (pv 2) rfl) (pss_cons (ps_fld (pv 0) (pv 3) rfl) (pss_cons (ps_fld (pv 0) (pv 4) rfl) (pss_cons (ps_fld (pv 0) (pv 5) rfl) (pss_one (ps_fld (pv 0) pe_dnewT rfl)))))))), ?_⟩
  refine ⟨_, rfl, _, _, rfl, rfl, _, rfl, ?_⟩
  rw [show decide ((b.eyes : Int) < 1) = false from decide_eq_false (by omega)]
  refine iteF ⟨_, rfl, _, _, rfl, rfl, _, rfl, ?_⟩
  rw [show decide ((7 : Int) < (b.eyes : Int)) = false from decide_eq_false (by omega)]
  refine iteF ⟨_, rfl, _, _, rfl, rfl, _, rfl, ?_⟩
  rw [show decide ((b.turns : Int) < 1) = false from decide_eq_false (by omega)]
  refine iteF ⟨_, rfl, _, _, rfl, rfl, _, rfl, ?_⟩
  rw [show decide ((12 : Int) < (b.turns : Int)) = false from decide_eq_false (by omega)]
  refine iteF ?_
  refine ⟨_, rfl, _, _, rfl, rfl, _, rfl, ?_⟩
  rw [show decide (b.up < 0) = false from decide_eq_false (by omega)]
  refine iteF ⟨_, rfl, _, _, rfl, rfl, _, rfl, ?_⟩
  rw [show decide (b.down < 0) = false from decide_eq_false (by omega)]
  refine iteF ⟨_, rfl, _, _, rfl, rfl, _, rfl, ?_⟩
  rw [show decide ((b.most : Int) < 0) = false from decide_eq_false (by omega)]
  refine iteF ⟨_, rfl, _, rfl, _, _, rfl, rfl, _, rfl, ?_⟩
  rw [show decide ((b.eyes : Int) < (b.most : Int)) = false from decide_eq_false (by omega)]
  refine iteF ?_
  have l1 := putF_len "eyes" (.int (b.eyes : Int)) []
  have l2 := putF_len "turns" (.int (b.turns : Int)) (putF "eyes" (.int (b.eyes : Int)) [])
  have l3 := putF_len "up" (.int b.up) (putF "turns" (.int (b.turns : Int)) (putF "eyes" (.int (b.eyes : Int)) []))
  have l4 := putF_len "down" (.int b.down) (putF "up" (.int b.up) (putF "turns" (.int (b.turns : Int)) (putF "eyes" (.int (b.eyes : Int)) [])))
  have l5 := putF_len "most" (.int (b.most : Int)) (putF "down" (.int b.down) (putF "up" (.int b.up) (putF "turns" (.int (b.turns : Int)) (putF "eyes" (.int (b.eyes : Int)) []))))
  have l0 : ([] : List (Str × V)).length = 0 := rfl
  refine ⟨_, rfl, _, rfl, p, C, dx, _, rfl, hp, BC.cl, BC.nE, by omega, ?_⟩
  refine ⟨_, rfl, _, rfl, p, C, dx, _, rfl, upd_same, BC.cl, BC.nT, by omega, ?_⟩
  refine ⟨_, rfl, _, rfl, p, C, dx, _, rfl, upd_same, BC.cl, BC.nU, by omega, ?_⟩
  refine ⟨_, rfl, _, rfl, p, C, dx, _, rfl, upd_same, BC.cl, BC.nD, by omega, ?_⟩
  refine ⟨_, rfl, _, rfl, p, C, dx, _, rfl, upd_same, BC.cl, BC.nM, by omega, ?_⟩
  intro d nd
  have npd : p ≠ d := fun e => by
    rw [← e, upd_same] at nd
    cases nd
  refine ⟨_, rfl, p, C, dx, _, rfl, (by rw [upd_ne npd]; exact upd_same), BC.cl, BC.nW, by omega, ?_⟩
  rw [upd_ne npd.symm, upd_ne npd.symm, upd_ne npd.symm, upd_ne npd.symm, upd_ne npd.symm] at nd
  refine q _ d nd upd_same (by rw [upd_ne npd.symm, upd_same]) fun x o e hx => ?_
  rw [upd_ne hx, upd_ne (ne_of_none e nd), upd_ne hx, upd_ne hx, upd_ne hx, upd_ne hx, upd_ne hx]
  exact e
def spHas (C : Addr) : Sp := fun vs H Q _ => ∃ (bv : V) (b : Bd) (ws : List Wd) (e t : Nat), vs = [bv, .int (e : Int), .int (t : Int)] ∧ BoardAt C b H bv ws ∧ e < b.eyes ∧ t < b.turns ∧ Q (.bl true) H
theorem dm_has (T : Tm K C "has" "Board.has" sHas) (BC : BT K mg C) : Dm P w K mg base C 1 "has" ["self", "eye", "turn"] (spHas C) := by
  refine dm_mk T (fun _ _ _ _ _ _ us hl => match us, hl with | [_, _, _], _ => rfl) fun f fd F => ?_
  refine F.ok scHas (fun vs H Q E h => ?_) (fun cdv A outer s H vs Q E hr h => ?_)
  · obtain ⟨bv, b, ws, e, t, rfl, _⟩ := h
    rfl
  obtain ⟨bv, b, ws, e, t, rfl, ⟨a, dx, fs, d, rfl, ha, fl, tb⟩, he, ht, q⟩ := h
  refine ⟨_, pss_one (ps_ret (pe_and (pe_chain op_le op_lt pe_int (pv 1) (pe_fld (pv 0) rfl)) (pe_one (pe_chain op_le op_lt pe_int (pv 2) (pe_fld (pv 0) rfl))))), ?_⟩
  refine ⟨_, rfl, _, _, rfl, rfl, _, rfl, ?_⟩
  rw [show decide ((0 : Int) ≤ (e : Int)) = true from decide_eq_true (by omega)]
  refine iteT ⟨_, rfl, a, C, dx, fs, _, rfl, ha, BC.cl, BC.nE, fl.eyes, _, _, rfl, rfl, _, rfl, ?_⟩
  rw [show decide ((e : Int) < (b.eyes : Int)) = true from decide_eq_true (by omega)]
  refine iteT ⟨_, rfl, _, _, rfl, rfl, _, rfl, ?_⟩
  rw [show decide ((0 : Int) ≤ (t : Int)) = true from decide_eq_true (by omega)]
  refine iteT ⟨_, rfl, a, C, dx, fs, _, rfl, ha, BC.cl, BC.nT, fl.turns, _, _, rfl, rfl, ?_⟩
  show Q (.bl (decide ((t : Int) < (b.turns : Int)))) H
  rw [show decide ((t : Int) < (b.turns : Int)) = true from decide_eq_true (by omega)]
  exact q
def BoardD (C : Addr) (b : Bd) (a d : Addr) (H : Hp) (ws : List Wd) : Prop := ∃ dx fs, H a = some (.ins C dx fs) ∧ Flds fs b d ∧ TabAt H d ws
theorem BoardD.at' {b : Bd} {a d : Addr} {H : Hp} {ws : List Wd} (h : BoardD C b a d H ws) : BoardAt C b H (.ref a) ws := by
  obtain ⟨dx, fs, h1, h2, h3⟩ := h
  exact ⟨a, dx, fs, d, rfl, h1, h2, h3⟩
def spTell (C : Addr) : Sp := fun vs H Q _ => ∃ (a d : Addr) (b : Bd) (ws : List Wd) (e t : Nat) (s : Sn), vs = [.ref a, .int (e : Int), .int (t : Int), vO s.1, vO s.2] ∧ BoardD C b a d H ws ∧ e < b.eyes ∧ t < b.turns ∧ Full s ∧ ws.length ≤ 1000 ∧
  ∀ H', BoardD C b a d H' (putW ws (e, t) s) → (∀ x o, H x = some o → x ≠ d → H' x = some o) → Q .non H'
theorem dm_tell (T : Tm K C "tell" "Board.tell" sTell) (BC : BT K mg C) (HH : Dm P w K mg base C 1 "has" ["self", "eye", "turn"] (spHas C)) : Dm P w K mg base C 2 "tell" ["self", "eye", "turn", "lo", "hi"] (spTell C) := by
  refine dm_mk T (fun _ _ _ _ _ _ us hl => match us, hl with | [_, _, _, _, _], _ => rfl) fun f fd F => ?_
  refine F.ok scTell (fun vs H Q E h => ?_) (fun cdv A outer s H vs Q E hr h => ?_)
  · obtain ⟨a, d, b, ws, e, t, s, rfl, _⟩ := h
    rfl
  obtain ⟨a, d, b, ws, e, t, s, rfl, hb, he, ht, fu, hlen, q⟩ := h
  obtain ⟨dx, fs, ha, fl, kvs, hd, pt, nd⟩ := id hb
  obtain ⟨fH, fdH, FH, mH, bH⟩ := HH
  obtain ⟨lo, hi⟩ := s
  have hu := hu_of hr
  refine ⟨_, pss_cons (ps_if (pt_not (pt_val (pe_meth (pv 0) BC.cl mH FH hr bH .nil pass0 (pa_cons (pv 1) (pa_cons (pv 2) pa_nil))))) (pss_one ps_never) pss_nil)
    (pss_cons (ps_if (PW.pt (pw_and (pt_cmpR op_notN (pv 3) pe_non (nomark _)) (pw_and (pt_cmpR op_notN (pv 4) pe_non (nomark _)) (pw_and1 (pt_cmpR op_gt (pv 3) (pv 4) (nomark _)))))) (pss_one ps_never) pss_nil)
    (pss_one (ps_dput hu (pe_fld (pv 0) rfl) (pe_tup (pa_cons (pv 1) (pa_cons (pv 2) pa_nil))) (pe_tup (pa_cons (pv 3) (pa_cons (pv 4) pa_nil))) rfl))), ?_⟩
  refine u_if1 ?_
  refine ⟨_, rfl, a, dx, fs, rfl, ha, fl.nHas, _, rfl, _, rfl, _, b, ws, e, t, rfl, hb.at', he, ht, _, rfl, iteF ?_⟩
  have fin : sDPut (tFld K (tVar 0) "told") (tTup (tCons (tVar 1) (tCons (tVar 2) tNil))) (tTup (tCons (tVar 3) (tCons (tVar 4) tNil))) { nx := fun _ H' => Q .non H', rt := Q } [some (.ref a), some (.int (e : Int)), some (.int (t : Int)), some (vO lo), some (vO hi)] H := by
    refine ⟨_, rfl, _, rfl, (by show 2 ≤ sizeLine; decide), fun r nr => ?_⟩
    have s1 : Same H (upd H r (.tup [vO lo, vO hi])) := same_new nr _
    refine ⟨_, rfl, a, C, dx, fs, _, rfl, s1 _ _ ha, BC.cl, BC.nW, fl.told, _, rfl, _, rfl, (by show 2 ≤ sizeLine; decide), fun k nk => ?_⟩
    have s2 : Same (upd H r (.tup [vO lo, vO hi])) (upd (upd H r (.tup [vO lo, vO hi])) k (.tup [.int (e : Int), .int (t : Int)])) := same_new nk _
    have s12 := s1.trans s2
    have nda : a ≠ d := ne_of ha hd (by intro z; cases z)
    have hrr : (upd (upd H r (.tup [vO lo, vO hi])) k (.tup [.int (e : Int), .int (t : Int)])) r = some (.tup [vO lo, vO hi]) := s2 _ _ upd_same
    have hk : (upd (upd H r (.tup [vO lo, vO hi])) k (.tup [.int (e : Int), .int (t : Int)])) k = some (.tup ((keyOf (e, t)).map kV)) := upd_same
    generalize (upd (upd H r (.tup [vO lo, vO hi])) k (.tup [.int (e : Int), .int (t : Int)])) = H2 at *
    have hd2 : H2 d = some (.dT kvs) := s12 _ _ hd
    have hkl : kvs.length ≤ 1000 := by rw [paired_len pt]; exact hlen
    refine ⟨d, _, rfl, DPut.t (k := keyOf (e, t)) hd2 hk (small1000 hkl), ?_⟩
    have off : ∀ {v : V} {x : Sn}, SpanAt H2 v x → SpanAt (upd H2 d (.dT (putK kvs (keyOf (e, t)) (.ref r)))) v x := fun ⟨z, e1, e2⟩ => ⟨z, e1, by
      rw [upd_ne (ne_of e2 hd2 (by intro z; cases z))]
      exact e2⟩
    have offs : ∀ {kvs : List (List Key × V)} {ws : List Wd} {o : HO}, Paired (TellAt H2) kvs ws → Paired (TellAt (upd H2 d o)) kvs ws := fun {kvs ws o} p => by
      induction p with
      | nil => exact .nil
      | cons r _ ih =>
        obtain ⟨r1, z, e1, e2⟩ := r
        exact .cons ⟨r1, z, e1, by rw [upd_ne (ne_of e2 hd2 (by intro z; cases z))]; exact e2⟩ ih
    refine q _ ⟨dx, fs, by rw [upd_ne nda]; exact s12 _ _ ha, fl, _, upd_same, offs (put_told (tell_mono s12 pt) ⟨r, rfl, hrr⟩), putW_keys _ _ _ nd⟩ fun x o e1 hx => ?_
    rw [upd_ne hx]
    exact s12 _ _ e1
  refine u_if1 ?_
  refine ⟨_, rfl, rfl, _, rfl, ?_⟩
  cases lo with
  | none => exact iteF (iteF fin)
  | some l =>
    refine iteT ⟨_, rfl, rfl, _, rfl, ?_⟩
    cases hi with
    | none => exact iteF (iteF fin)
    | some u =>
      refine iteT ⟨_, rfl, _, rfl, _, _, rfl, rfl, _, rfl, ?_⟩
      have := fu l u rfl rfl
      rw [show decide (u < l) = false from decide_eq_false (by omega)]
      exact iteF fin
end
end Gz
namespace Gz
open PySem PySem.Spec PyProof.Rows L2
theorem perm_paired {α β : Type} {F : α → β → Prop} {ys xs : List α} (h : ys.Perm xs) : ∀ {as : List β}, Paired F xs as → ∃ bs, bs.Perm as ∧ Paired F ys bs := by
  induction h with
  | nil => exact fun {as} p => ⟨as, .refl _, p⟩
  | cons a h ih =>
    intro as p
    cases p with
    | cons r t =>
      obtain ⟨bs, h1, h2⟩ := ih t
      exact ⟨_ :: bs, h1.cons _, .cons r h2⟩
  | swap a b l =>
    intro as p
    cases p with
    | cons r t =>
      cases t with
      | cons r2 t2 => exact ⟨_ :: _ :: _, .swap _ _ _, .cons r2 (.cons r t2)⟩
  | trans h1 h2 ih1 ih2 =>
    intro as p
    obtain ⟨bs, a1, a2⟩ := ih2 p
    obtain ⟨cs, b1, b2⟩ := ih1 a2
    exact ⟨cs, b1.trans a1, b2⟩
/-- words in order -/
def wle (x y : Wd) : Prop := x.1.1 < y.1.1 ∨ (x.1.1 = y.1.1 ∧ x.1.2 ≤ y.1.2)
def KeyW (H : Hp) (v : V) (x : Wd) : Prop := ∃ a, v = .ref a ∧ H a = some (.tup [.int (x.1.1 : Int), .int (x.1.2 : Int)])
def TriAt (H : Hp) (v : V) (x : Wd) : Prop := ∃ a b, v = .ref a ∧ H a = some (.tup [.int (x.1.1 : Int), .int (x.1.2 : Int), .ref b]) ∧ H b = some (.tup [vO x.2.1, vO x.2.2])
theorem mono_keyW : Mono KeyW := fun _ _ _ _ s ⟨a, e, h⟩ => ⟨a, e, s _ _ h⟩
theorem mono_tri : Mono TriAt := fun _ _ _ _ s ⟨a, b, e, h, h'⟩ => ⟨a, b, e, s _ _ h, s _ _ h'⟩
theorem off_tri : OffT TriAt := fun _ _ _ _ _ h ⟨a, b, e, q, q'⟩ => ⟨a, b, e, hide_at q (off_ne h q), hide_at q' (off_ne h q')⟩
def pairOf (H : Hp) : V → Int × Int
  | .ref a => match H a with
    | some (.tup [.int i, .int j]) => (i, j)
    | _ => (0, 0)
  | _ => (0, 0)
theorem pairOf_at {H : Hp} {v : V} {x : Wd} (h : KeyW H v x) : pairOf H v = ((x.1.1 : Int), (x.1.2 : Int)) := by
  obtain ⟨a, rfl, e⟩ := h
  show (match H a with
    | some (.tup [.int i, .int j]) => (i, j)
    | _ => (0, 0)) = _
  rw [e]
theorem keys_told {H : Hp} : ∀ {kvs : List (List Key × V)} {ws : List Wd} {bs : List Addr}, Paired (TellAt H) kvs ws → IsKeys H kvs bs → Paired (KeyW H) (bs.map V.ref) ws
  | _, _, _, .nil, .nil => .nil
  | _, _, _, .cons r t, .cons b u => .cons ⟨_, rfl, by rw [r.1] at b; exact b⟩ (keys_told t u)
theorem sorted_wle {H : Hp} : ∀ {ys : List V} {sw : List Wd}, Paired (KeyW H) ys sw → SrtO.Srtd (ltP (pairOf H)) ys → sw.Pairwise wle
  | _, _, .nil, _ => List.Pairwise.nil
  | _, _, .cons (a := a) (b := b) r t, h => by
    have h := List.pairwise_cons.mp h
    refine List.pairwise_cons.mpr ⟨fun y hy => ?_, sorted_wle t h.2⟩
    obtain ⟨i, hi, e⟩ := List.getElem_of_mem hy
    obtain ⟨v, e1, hv⟩ := paired_at t (List.getElem?_eq_getElem hi)
    have z := h.1 v (List.mem_of_getElem? e1)
    have z := SrtO.lexB_no.mp z
    rw [pairOf_at r, pairOf_at hv, e] at z
    show b.1.1 < y.1.1 ∨ (b.1.1 = y.1.1 ∧ b.1.2 ≤ y.1.2)
    dsimp only at z
    omega
section
variable {P : Program} {w : World} {K : PySem.W.Frag} {mg : Str → Option Value} {base : Heap} {C : Addr}
def spTellings (C : Addr) : Sp := fun vs H Q _ => ∃ (bv : V) (b : Bd) (ws : List Wd), vs = [bv] ∧ BoardAt C b H bv ws ∧ ws.length ≤ 1000 ∧
  ∀ sw p H', sw.Perm ws → sw.Pairwise wle → Same H H' → H p = none → (∃ acc, H' p = some (.lst acc) ∧ Paired (TriAt H') acc sw) → Q (.ref p) H'
theorem dm_tellings (T : Tm K C "tellings" "Board.tellings" sTellings) (B : Bi mg) (BC : BT K mg C) : Dm P w K mg base C 1 "tellings" ["self"] (spTellings C) := by
  refine dm_mk T (fun _ _ _ _ _ _ us hl => match us, hl with | [_], _ => rfl) fun f fd F => ?_
  refine F.ok scTellings (fun vs H Q E h => ?_) (fun cdv A outer s H vs Q E hr h => ?_)
  · obtain ⟨bv, b, ws, rfl, _⟩ := h
    rfl
  obtain ⟨bv, b, ws, rfl, ⟨a, dx, fs, d, rfl, ha, fl, kvs, hd, pt, nd⟩, hlen, q⟩ := h
  have hu := hu_of hr
  refine ⟨_, pss_one (ps_ret (pe_lc (own := [("spot", 1)]) (g := gName 1) (by rfl) scTellings.nd (pi_list (pe_callB cr_sortedPO (by rfl) B.sorted (by decide +kernel) (pa_cons (pe_callTy (call_list_dT rfl) (by rfl) B.list (by decide +kernel) (pa_cons (pe_fld (pv 0) rfl) pa_nil)) pa_nil)))
        (blkOk_by (own := [("spot", 1)]) (N := ["self", "spot"]) (sc := defScope sTellings) (by decide +kernel)) (fun _ _ _ _ _ => pg_name (i := 1) scTellings.nd rfl (Or.inl rfl)) (fun _ _ _ _ _ => pts_nil)
        (fun _ _ _ _ _ => pe_tup (pa_cons (pe_ix (ixT K) (pv 1) pe_int (fun _ _ => rfl)) (pa_cons (pe_ix (ixT K) (pv 1) pe_int (fun _ _ => rfl)) (pa_cons (pe_dget hu (fldK K (pv 0)) (pv 1) (fun _ _ => rfl)) pa_nil)))))), ?_⟩
  refine u_ret (tLc_of ?_)
  refine ⟨_, rfl, a, C, dx, fs, _, rfl, ha, BC.cl, BC.nW, fl.told, d, kvs, rfl, .inl hd, fun p bs np ik => ?_⟩
  have s1 : Same H (upd H p (.lst (bs.map V.ref))) := same_new np _
  have pk := keys_told pt ik
  refine ⟨p, bs.map V.ref, pairOf H, rfl, .inl (.inl upd_same), fun x hx => ?_, fun ys r hso hst nr => ?_⟩
  · obtain ⟨i, hi, e⟩ := List.getElem_of_mem hx
    obtain ⟨y, e1, hy⟩ := paired_atV pk (i := i) (v := x) (by rw [List.getElem?_eq_getElem hi, e])
    rw [pairOf_at hy]
    obtain ⟨t, e2, h2⟩ := hy
    exact ⟨t, e2, s1 _ _ h2⟩
  have s2 : Same H (upd (upd H p (.lst (bs.map V.ref))) r (.lst ys)) := s1.trans (same_new nr _)
  have hrr : (upd (upd H p (.lst (bs.map V.ref))) r (.lst ys)) r = some (.lst ys) := upd_same
  generalize (upd (upd H p (.lst (bs.map V.ref))) r (.lst ys)) = H2 at *
  obtain ⟨sw, hsw, psw⟩ := perm_paired hst.perm pk
  have hle := sorted_wle psw hso
  have hsl := paired_len psw
  refine ⟨r, rfl, ⟨_, lst_at hrr⟩, ?_⟩
  refine lc_fm (H1 := H2) mono_tri off_tri (fun x : Wd => some x) hsl hrr (len_lt (by rw [hsl, hsw.length_eq]; omega)) (fun i x y H' N C0 hx hy s3 hN hC => ?_) (fun D H' nD s3 hm2 => ?_)
  · obtain ⟨y', e1, k, rfl, hk⟩ := paired_atV psw hx
    obtain rfl : y' = y := Option.some.inj (e1.symm.trans hy)
    have hym : y' ∈ ws := hsw.mem_iff.mp (List.mem_of_getElem? hy)
    obtain ⟨⟨e, t⟩, sn⟩ := y'
    obtain ⟨v, hv1, sa, rfl, hv2⟩ := valV_told pt hym nd
    have s23 := s2.trans s3
    refine ⟨rfl, _, rfl, k, _, _, _, rfl, rfl, tup_at (s23 _ _ hk), rfl, _, rfl, k, _, _, _, rfl, rfl, tup_at (s23 _ _ hk), rfl, _, rfl, a, C, dx, fs, _, rfl, s23 _ _ ha, BC.cl, BC.nW, fl.told, _, rfl, d, .ref sa, rfl, ?_, (by show 3 ≤ sizeLine; decide), fun o no => ?_⟩
    · have g := DGet.t (k := keyOf (e, t)) (s23 _ _ hd) (s23 _ _ hk)
      rw [hv1] at g
      exact g
    · exact hN _ _ _ rfl (same_new no _) ⟨o, sa, rfl, upd_same, same_new no _ _ _ (s23 _ _ hv2)⟩
  · rw [show sw.filterMap (fun x : Wd => some x) = sw from List.filterMap_some] at hm2
    exact q sw D H' hsw hle (s2.trans s3) (s2.free nD) hm2
theorem all_flat : ∀ ns : List Int, (ns.map V.int).all flatV = true
  | [] => rfl
  | _ :: r => all_flat r
theorem inV_int (i : Int) : ∀ ns : List Int, inV (.int i) (ns.map V.int) = ns.contains i
  | [] => rfl
  | n :: r => by
    show (eqV (.int n) (.int i) || inV (.int i) (r.map V.int)) = (i == n || r.contains i)
    rw [inV_int i r]
    congr 1
    show (n == i) = (i == n)
    exact Bool.beq_comm
def spMarksWithout (C : Addr) : Sp := fun vs H Q _ => ∃ (bv sv : V) (b : Bd) (ws : List Wd) (F : List Int), vs = [bv, sv] ∧ BoardAt C b H bv ws ∧ ws.length ≤ 500 ∧ LstAt IntAt H sv F ∧
  ∀ ms p H', (∀ m, m ∈ ms ↔ ∃ x ∈ ws, (x.1.1 : Int) ∉ F ∧ m = (x.1.2, x.2)) → ms.length ≤ ws.length → Same H H' → H p = none → (∃ acc, H' p = some (.lst acc) ∧ Paired (MarkAt H') acc ms) → Q (.ref p) H'
theorem df_marks_without (T : Tx K mg "marks_without" sMarksWithout) (BC : BT K mg C) (TT : Dm P w K mg base C 1 "tellings" ["self"] (spTellings C)) : Df P w K mg base 2 "marks_without" ["board", "some"] (spMarksWithout C) := by
  refine df_mk T (fun _ _ _ _ _ _ us hl => match us, hl with | [_, _], _ => rfl) fun f fd F _ => ?_
  obtain ⟨fT, fdT, FT, mT, bT⟩ := TT
  refine F.ok scMarksWithout (fun vs H Q E h => ?_) (fun cdv A outer s H vs Q E hr h => ?_)
  · obtain ⟨bv, sv, b, ws, F, rfl, _⟩ := h
    rfl
  obtain ⟨bv, sv, b, ws, F, rfl, hb, hlen, ⟨sa, svs, rfl, hs, ps⟩, q⟩ := h
  obtain ⟨a, dx, fs, d, rfl, ha, fl, tb⟩ := id hb
  have es := paired_ints ps
  subst es
  refine ⟨_, pss_one (ps_ret (pe_lc (own := [("eye", 2), ("turn", 3), ("span", 4)]) (g := gTup K 3 (gCons (gName 2) (gCons (gName 3) (gCons (gName 4) gNil)))) (by rfl) scMarksWithout.nd (pi_list (pe_meth0 (pv 0) BC.cl mT FT hr bT .nil pass0))
        (blkOk_by (own := [("eye", 2), ("turn", 3), ("span", 4)]) (N := ["board", "some", "eye", "turn", "span"]) (sc := defScope sMarksWithout) (by decide +kernel))
        (fun _ _ _ _ _ => tupK K rfl (pgs_cons (pg_name (i := 2) scMarksWithout.nd rfl (Or.inl rfl)) (pgs_cons (pg_name (i := 3) scMarksWithout.nd rfl (Or.inl rfl)) (pgs_cons (pg_name (i := 4) scMarksWithout.nd rfl (Or.inl rfl)) pgs_nil))))
        (fun _ _ _ _ _ => pts_one (pt_cmpR (nin K) (pv 2) (pv 1) (by rfl))) (fun _ _ _ _ _ => pe_tup (pa_cons (pv 3) (pa_cons (pv 4) pa_nil))))), ?_⟩
  refine u_ret (tLc_of ?_)
  refine ⟨_, rfl, a, dx, fs, rfl, ha, fl.nTellings, _, b, ws, rfl, hb, by omega, fun sw p H1 hsw hle s1 np hp => ?_⟩
  obtain ⟨tv, hp, ptv⟩ := hp
  have hsl := paired_len ptv
  refine ⟨p, rfl, ⟨_, lst_at hp⟩, ?_⟩
  refine lc_fm (H1 := H1) mono_mark off_mark (fun x : Wd => if F.contains (x.1.1 : Int) then none else some (x.1.2, x.2)) hsl hp (len_lt (by rw [hsl, hsw.length_eq]; omega)) (fun i x y H' N C0 hx hy s3 hN hC => ?_) (fun D H' nD s3 hm2 => ?_)
  · obtain ⟨y', e1, k, c, rfl, hk, hc⟩ := paired_atV ptv hx
    obtain rfl : y' = y := Option.some.inj (e1.symm.trans hy)
    refine ⟨k, _, rfl, tup_at (s3 _ _ hk), rfl, _, _, rfl, _, _, rfl, _, _, rfl, rfl, rfl, ?_⟩
    refine ⟨_, rfl, _, rfl, sa, _, rfl, .inl (lst_at ((s1.trans s3) _ _ hs)), rfl, all_flat F, _, rfl, ?_⟩
    show if (if true = true then !inV (V.int ((y'.1.1 : Nat) : Int)) (F.map V.int) else inV (V.int ((y'.1.1 : Nat) : Int)) (F.map V.int)) = true then _ else _
    rw [if_pos rfl, inV_int]
    cases ec : F.contains ((y'.1.1 : Nat) : Int) with
    | true =>
      refine iteF (hC _ ?_ (Same.refl _))
      rw [ec]
      rfl
    | false =>
      refine iteT ⟨_, rfl, _, rfl, (by show 2 ≤ sizeLine; decide), fun o no => ?_⟩
      refine hN (y'.1.2, y'.2) _ _ ?_ (same_new no _) ⟨o, c, rfl, upd_same, same_new no _ _ _ (s3 _ _ hc)⟩
      rw [ec]
      rfl
  · refine q _ D H' (fun m => ?_) ?_ (s1.trans s3) (s1.free nD) hm2
    · rw [List.mem_filterMap]
      constructor
      · rintro ⟨x, hx, e⟩
        by_cases ec : F.contains (x.1.1 : Int) = true
        · rw [if_pos ec] at e
          cases e
        · rw [if_neg ec] at e
          exact ⟨x, hsw.mem_iff.mp hx, fun z => ec (List.contains_iff_mem.mpr z), (Option.some.inj e).symm⟩
      · rintro ⟨x, hx, h1, rfl⟩
        exact ⟨x, hsw.mem_iff.mpr hx, if_neg fun z => h1 (List.contains_iff_mem.mp z)⟩
    · rw [← hsw.length_eq]
      exact List.length_filterMap_le _ _
def EmAt (H : Hp) (v : V) (p : EM) : Prop := ∃ a b c, v = .ref a ∧ H a = some (.tup [vO p.1, .ref b]) ∧ H b = some (.tup [.int (p.2.1 : Int), .ref c]) ∧ H c = some (.tup [vO p.2.2.1, vO p.2.2.2])
theorem mono_em : Mono EmAt := fun _ _ _ _ s ⟨a, b, c, e, h, h', h''⟩ => ⟨a, b, c, e, s _ _ h, s _ _ h', s _ _ h''⟩
theorem off_em : OffT EmAt := fun _ _ _ _ _ h ⟨a, b, c, e, q, q', q''⟩ => ⟨a, b, c, e, hide_at q (off_ne h q), hide_at q' (off_ne h q'), hide_at q'' (off_ne h q'')⟩
def goalE (gs : List Sn) (n : Nat) : List EM := (List.range n).map fun t => (none, (t, gs.getD t (none, none)))
def spMarksOf (C : Addr) : Sp := fun vs H Q _ => ∃ (bv gv : V) (b : Bd) (ws : List Wd) (gs : List Sn), vs = [bv, gv] ∧ BoardAt C b H bv ws ∧ ws.length ≤ 500 ∧ LstAt SpanAt H gv gs ∧ gs.length ≤ 100 ∧
  ∀ es p H', (∀ e, e ∈ es ↔ (∃ x ∈ ws, e = (some (x.1.1 : Int), (x.1.2, x.2))) ∨ ∃ t s, gs[t]? = some s ∧ e = (none, (t, s))) → es.length ≤ ws.length + gs.length → Same H H' → H p = none → (∃ acc, H' p = some (.lst acc) ∧ Paired (EmAt H') acc es) → Q (.ref p) H'
theorem df_marks_of (T : Tx K mg "marks_of" sMarksOf) (B : Bi mg) (BC : BT K mg C) (TT : Dm P w K mg base C 1 "tellings" ["self"] (spTellings C)) : Df P w K mg base 2 "marks_of" ["board", "goals"] (spMarksOf C) := by
  refine df_mk T (fun _ _ _ _ _ _ us hl => match us, hl with | [_, _], _ => rfl) fun f fd F _ => ?_
  obtain ⟨fT, fdT, FT, mT, bT⟩ := TT
  refine F.ok scMarksOf (fun vs H Q E h => ?_) (fun cdv A outer s H vs Q E hr h => ?_)
  · obtain ⟨bv, gv, b, ws, gs, rfl, _⟩ := h
    rfl
  obtain ⟨bv, gv, b, ws, gs, rfl, hb, hlen, ⟨ga, gvs, rfl, hg, pg⟩, hgl, q⟩ := h
  obtain ⟨a, dx, fs, d, rfl, ha, fl, tb⟩ := id hb
  have hgv := paired_len pg
  refine ⟨_, pss_cons (ps_setLc (i := 2) (own := [("eye", 4), ("turn", 3), ("span", 5)]) (g := gTup K 3 (gCons (gName 4) (gCons (gName 3) (gCons (gName 5) gNil)))) (by rfl) scMarksOf.nd rfl rfl (sw_true rfl rfl rfl (by decide +kernel)) (pi_list (pe_meth0 (pv 0) BC.cl mT FT hr bT .nil pass0))
        (blkOk_by (own := [("eye", 4), ("turn", 3), ("span", 5)]) (N := ["board", "goals", "marks", "turn", "eye", "span"]) (sc := defScope sMarksOf) (by decide +kernel))
        (fun _ _ _ _ _ => tupK K rfl (pgs_cons (pg_name (i := 4) scMarksOf.nd rfl (Or.inl rfl)) (pgs_cons (pg_name (i := 3) scMarksOf.nd rfl (Or.inl rfl)) (pgs_cons (pg_name (i := 5) scMarksOf.nd rfl (Or.inl rfl)) pgs_nil))))
        (fun _ _ _ _ _ => pts_nil) (fun _ _ _ _ _ => pe_tup (pa_cons (pv 4) (pa_cons (pe_tup (pa_cons (pv 3) (pa_cons (pv 5) pa_nil))) pa_nil))))
    (pss_cons (ps_for PassesOwn.never rfl (pi_range1 rfl B.range (pa_cons (pe_callB call_len_seq (by rfl) B.len PySem.boot_len (pa_cons (pv 1) pa_nil)) pa_nil)) (pg_name (i := 3) scMarksOf.nd rfl (Or.inl rfl))
      (pss_one (ps_expr (pe_bm PySem.F.plainAttrs_list PySem.F.slot_list_append PySem.F.type_list_append mt_append (pv 2) (pa_cons (pe_tup (pa_cons pe_non (pa_cons (pe_tup (pa_cons (pv 3) (pa_cons (pe_ix ix_list (pv 1) (pv 3) (fun _ _ => rfl)) pa_nil))) pa_nil))) pa_nil)))))
    (pss_one (ps_ret (pv 2)))), ?_⟩
  refine u_set (tLc_of ?_)
  refine ⟨_, rfl, a, dx, fs, rfl, ha, fl.nTellings, _, b, ws, rfl, hb, by omega, fun sw p H1 hsw hle s1 np hp => ?_⟩
  obtain ⟨tv, hp, ptv⟩ := hp
  have hsl := paired_len ptv
  have hwl := hsw.length_eq
  refine ⟨p, rfl, ⟨_, lst_at hp⟩, ?_⟩
  refine lc_fmH (H1 := H1) mono_em (fun x : Wd => some ((some (x.1.1 : Int), (x.1.2, x.2)) : EM)) hsl hp (len_lt (by omega)) (fun i x y D H' N C0 hx hy nD s3 hA hN hC => ?_) (fun D H' nD s3 hm2 => ?_)
  · obtain ⟨y', e1, k, c, rfl, hk, hc⟩ := paired_atV ptv hx
    obtain rfl : y' = y := Option.some.inj (e1.symm.trans hy)
    obtain ⟨acc, hA⟩ := hA
    refine ⟨k, _, rfl, tup_at (s3 _ _ hk), rfl, _, _, rfl, _, _, rfl, _, _, rfl, rfl, rfl, ?_⟩
    refine ⟨_, rfl, _, rfl, _, rfl, (by show 2 ≤ sizeLine; decide), fun o no => ?_⟩
    refine ⟨(by show 2 ≤ sizeLine; decide), fun o2 no2 => ?_⟩
    have t1 : Same H' (upd H' o (.tup [.int (y'.1.2 : Int), .ref c])) := same_new no _
    have t2 := same_new no2 (.tup [.int (y'.1.1 : Int), .ref o])
    refine hN _ _ _ rfl (t1.trans t2) (off_em _ _ _ _ _ ((t1.trans t2) _ _ hA) ⟨o2, o, c, rfl, upd_same, t2 _ _ upd_same, (t1.trans t2) _ _ (s3 _ _ hc)⟩)
  obtain ⟨acc, h1, h2⟩ := hm2
  have off2 := paired_off off_em h1 h2
  have eB : sw.filterMap (fun x : Wd => some ((some (x.1.1 : Int), (x.1.2, x.2)) : EM)) = sw.map fun x : Wd => ((some (x.1.1 : Int), (x.1.2, x.2)) : EM) := by rw [List.filterMap_eq_map']
  rw [eB] at h2 off2
  have hDn : H D = none := s1.free nD
  refine ⟨_, rfl, ga, _, rfl, .inl (lst_at ((s1.trans s3) _ _ hg)), _, rfl, by omega, by omega, ?_⟩
  refine for_range (lo := 0) (n := gvs.length) (fun i σ H2 => ∃ x3, σ = [some (.ref a), some (.ref ga), some (.ref D), x3, none, none] ∧ Made EmAt H D (sw.map (fun x : Wd => ((some (x.1.1 : Int), (x.1.2, x.2)) : EM)) ++ goalE gs i) H2)
    ⟨none, rfl, s1.trans s3, acc, h1, by rw [show goalE gs 0 = [] from rfl, List.append_nil]; exact off2⟩ ?_ ?_
  · rintro i σ H2 hi ⟨x3, rfl, m⟩
    obtain ⟨sm, acc2, m1, m2⟩ := id m
    obtain ⟨v, e1, gb, rfl, hgb⟩ := paired_at pg (i := i) (List.getElem?_eq_getElem (by omega))
    have hl2 : (sw.map (fun x : Wd => ((some (x.1.1 : Int), (x.1.2, x.2)) : EM)) ++ goalE gs i).length = sw.length + i := by
      rw [List.length_append, List.length_map]
      unfold goalE
      rw [List.length_map, List.length_range]
    refine ⟨_, rfl, .inl ⟨rfl, _, lst_at m1⟩, _, rfl, _, rfl, _, rfl, ga, gvs, _, _, rfl, rfl, lst_at (sm _ _ hg), at_of (j := i) (by omega) e1, (by show 2 ≤ sizeLine; decide), fun o no => ?_⟩
    refine ⟨(by show 2 ≤ sizeLine; decide), fun o2 no2 => ?_⟩
    have t1 : Same H2 (upd H2 o (.tup [.int (0 + (i : Int)), .ref gb])) := same_new no _
    have t2 := same_new no2 (.tup [.non, .ref o])
    have hem : EmAt (upd (upd H2 o (.tup [.int (0 + (i : Int)), .ref gb])) o2 (.tup [.non, .ref o])) (.ref o2) (none, (i, gs[i])) := ⟨o2, o, gb, rfl, upd_same, by
      have e := t2 _ _ (upd_same (H := H2) (a := o) (o := .tup [.int (0 + (i : Int)), .ref gb]))
      rw [Int.zero_add] at e
      rw [Int.zero_add]
      exact e, (t1.trans t2) _ _ (sm _ _ hgb)⟩
    obtain ⟨acc3, q1, q2, q3⟩ := made_snoc mono_em hDn m (t1.trans t2) (off_em _ _ _ _ _ ((t1.trans t2) _ _ m1) hem) (by rw [hl2]; exact len_lt (by omega))
    refine ⟨D, acc3, _, rfl, rfl, q1, q2, _, rfl, ?_⟩
    have eg : sw.map (fun x : Wd => ((some (x.1.1 : Int), (x.1.2, x.2)) : EM)) ++ goalE gs (i + 1) = sw.map (fun x : Wd => ((some (x.1.1 : Int), (x.1.2, x.2)) : EM)) ++ goalE gs i ++ [(none, (i, gs[i]))] := by
      unfold goalE
      rw [List.range_succ, List.map_append, ← List.append_assoc]
      congr 1
      show [((none, (i, gs.getD i (none, none))) : EM)] = _
      rw [List.getD_eq_getElem?_getD, List.getElem?_eq_getElem (by omega)]
      rfl
    rw [eg]
    exact q3
  · rintro σ H2 ⟨x3, rfl, m⟩
    refine ⟨_, rfl, ?_⟩
    refine q _ D H2 (fun e => ?_) ?_ m.1 hDn (made_end mono_em m)
    · rw [List.mem_append, List.mem_map]
      constructor
      · rintro (⟨x, hx, rfl⟩ | he)
        · exact .inl ⟨x, hsw.mem_iff.mp hx, rfl⟩
        · obtain ⟨t, ht, rfl⟩ := List.mem_map.mp he
          rw [List.mem_range] at ht
          refine .inr ⟨t, gs.getD t (none, none), ?_, rfl⟩
          rw [List.getD_eq_getElem?_getD, List.getElem?_eq_getElem (by omega)]
          rfl
      · rintro (⟨x, hx, rfl⟩ | ⟨t, s, h3, rfl⟩)
        · exact .inl ⟨x, hsw.mem_iff.mpr hx, rfl⟩
        · refine .inr (List.mem_map.mpr ⟨t, List.mem_range.mpr ?_, ?_⟩)
          · have := (List.getElem?_eq_some_iff.mp h3).1
            omega
          · rw [List.getD_eq_getElem?_getD, h3]
            rfl
    · rw [List.length_append, List.length_map]
      unfold goalE
      rw [List.length_map, List.length_range]
      omega
end
end Gz
namespace Gz
open PySem PySem.Spec PyProof.Rows L2
theorem keys_put (kvs : List (Key × V)) (k : Key) (v : V) : ((putK kvs k v).map (·.1)) = if (kvs.any fun kv => decide (kv.1 = k)) = true then kvs.map (·.1) else kvs.map (·.1) ++ [k] := by
  unfold putK
  split
  · rw [List.map_map]
    congr 1
    funext x
    show (if x.1 = k then (x.1, v) else x).1 = x.1
    split <;> rfl
  · rw [List.map_append]
    rfl
/-- keys that are ints of a list -/
def KeysIn (kvs : List (Key × V)) (F : List Int) : Prop := ∃ ns : List Int, kvs.map (·.1) = ns.map Sum.inl ∧ ns.Nodup ∧ ∀ n ∈ ns, n ∈ F
theorem keysIn_put {kvs : List (Key × V)} {F : List Int} (h : KeysIn kvs F) {i : Int} (hi : i ∈ F) (v : V) : KeysIn (putK kvs (Sum.inl i) v) F := by
  obtain ⟨ns, e, nd, hm⟩ := h
  unfold KeysIn
  rw [keys_put, e]
  by_cases a : (kvs.any fun kv => decide (kv.1 = (Sum.inl i : Key))) = true
  · rw [if_pos a]
    exact ⟨ns, rfl, nd, hm⟩
  · rw [if_neg a]
    refine ⟨ns ++ [i], by rw [List.map_append]; rfl, ?_, fun n hn => ?_⟩
    · refine List.nodup_append.mpr ⟨nd, by simp, ?_⟩
      intro x hx y hy z
      have hy : y = i := by simpa using hy
      have hk : (Sum.inl i : Key) ∈ kvs.map (·.1) := by
        rw [e, ← hy, ← z]
        exact List.mem_map.mpr ⟨x, hx, rfl⟩
      obtain ⟨p, hp, ep⟩ := List.mem_map.mp hk
      exact a (List.any_eq_true.mpr ⟨p, hp, decide_eq_true ep⟩)
    · rcases List.mem_append.mp hn with z | z
      · exact hm n z
      · have : n = i := by simpa using z
        rw [this]
        exact hi
section
variable {P : Program} {w : World} {K : PySem.W.Frag} {mg : Str → Option Value} {base : Heap} {C : Addr}
/-- what stands new in a later heap -/
def only (H H' : Hp) : Hp := fun b => match H b with
  | none => H' b
  | some _ => none
theorem only_at {H H' : Hp} {b : Addr} {o : HO} (n : H b = none) (h : H' b = some o) : only H H' b = some o := by
  unfold only
  rw [n]
  exact h
theorem only_in {H H' : Hp} : Same (only H H') H' := fun b o q => by
  unfold only at q
  cases e : H b with
  | none => rw [e] at q; exact q
  | some u => rw [e] at q; cases q
theorem only_new {H H' : Hp} {b : Addr} {o : HO} (q : only H H' b = some o) : H b = none := by
  unfold only at q
  cases e : H b with
  | none => rfl
  | some u => rw [e] at q; cases q
theorem only_same {H H' H'' : Hp} (s : Same H' H'') : Same (only H H') (only H H'') := fun b o q => only_at (only_new q) (s _ _ (only_in _ _ q))
theorem only_hide {H H' : Hp} {l : Addr} {o : HO} (h : H l = some o) : Same (only H H') (hide H' l) := fun b u q => hide_at (only_in _ _ q) fun e => by
  have := only_new q
  rw [e, h] at this
  cases this
def spEyesAside : Sp := fun vs H Q _ => ∃ n : Nat, vs = [.int (n : Int)] ∧ n ≤ 7 ∧ ∀ p H', Same H H' → H p = none → (∃ acc, H' p = some (.lst acc) ∧ Paired (LstAt IntAt (only H H')) acc (asides n)) → Q (.ref p) H'
theorem pow_small {i n : Nat} (h : i ≤ n) (h7 : n ≤ 7) : 2 ^ i ≤ 128 := Nat.le_trans (Nat.pow_le_pow_right (by decide) (Nat.le_trans h h7)) (by decide)
theorem df_eyes_aside (T : Tx K mg "eyes_aside" sEyesAside) (B : Bi mg) : Df P w K mg base 1 "eyes_aside" ["many"] spEyesAside := by
  refine df_mk T (fun _ _ _ _ _ _ us hl => match us, hl with | [_], _ => rfl) fun f fd F _ => ?_
  refine F.ok scEyesAside (fun vs H Q E h => ?_) (fun cdv A outer s H vs Q E hr h => ?_)
  · obtain ⟨n, rfl, _⟩ := h
    rfl
  obtain ⟨n, rfl, h7, q⟩ := h
  refine ⟨_, pss_cons (ps_set (i := 1) scEyesAside.nd rfl (Or.inl rfl) (pe_lst (pa_cons (pe_lst pa_nil) pa_nil)))
    (pss_cons (ps_for PassesOwn.never rfl (pi_range1 rfl B.range (pa_cons (pv 0) pa_nil)) (pg_name (i := 2) scEyesAside.nd rfl (Or.inr rfl))
      (pss_one (ps_set (i := 1) scEyesAside.nd rfl (Or.inl rfl) (pe_op op_cat (pv 1) (pe_lc (own := [("some", 3)]) (g := gName 3) (by rfl) scEyesAside.nd (pi_list (pv 1))
        (blkOk_by (own := [("some", 3)]) (N := ["many", "found", "eye", "some"]) (sc := defScope sEyesAside) (by decide +kernel)) (fun _ _ _ _ _ => pg_name (i := 3) scEyesAside.nd rfl (Or.inl rfl)) (fun _ _ _ _ _ => pts_nil)
        (fun _ _ _ _ _ => pe_op op_cat (pv 3) (pe_lst (pa_cons (pv 2) pa_nil))))))))
    (pss_one (ps_ret (pv 1)))), ?_⟩
  refine ⟨Nat.zero_le _, fun e ne => ?_⟩
  refine ⟨(by show 1 ≤ sizeLine; decide), fun f0 nf => ?_⟩
  have s1 : Same H (upd H e (.lst [])) := same_new ne _
  have s2 := same_new nf (.lst [V.ref e])
  have nef : e ≠ f0 := ne_of_none upd_same nf
  have mR : Mono fun Hx => LstAt IntAt (only H Hx) := fun _ _ _ _ s h => mono_lst mono_int _ _ _ _ (only_same s) h
  refine ⟨_, rfl, _, rfl, by omega, by omega, ?_⟩
  refine for_range (lo := 0) (n := n) (fun i σ H' => ∃ (fa : Addr) (acc : List V) (x2 x3 : Option V), σ = [some (.int (n : Int)), some (.ref fa), x2, x3] ∧ Same H H' ∧ H fa = none ∧ H' fa = some (.lst acc) ∧ Paired (LstAt IntAt (only H H')) acc (asides i))
    ⟨f0, [.ref e], none, none, rfl, s1.trans s2, s1.free nf, upd_same, .cons ⟨e, [], rfl, only_at ne (s2 _ _ upd_same), .nil⟩ .nil⟩ ?_ ?_
  · rintro i σ H' hi ⟨fa, acc, x2, x3, rfl, s3, nfa, hfa, pac⟩
    have hal : acc.length ≤ 128 := by
      rw [paired_len pac, asides_len]
      exact pow_small (Nat.le_of_lt hi) h7
    refine u_asg (u_op ?_)
    refine ⟨_, rfl, tLc_of ?_⟩
    refine ⟨_, rfl, fa, rfl, ⟨_, lst_at hfa⟩, ?_⟩
    refine lc_fmH (H1 := H') (R := fun Hx => LstAt IntAt (only H Hx)) mR (fun l : List Int => some (l ++ [(i : Int)])) (paired_len pac) hfa (len_lt (by omega)) (fun j x l D H2 N C0 hx hl nD s4 hA hN hC => ?_) (fun D H2 nD s4 hm2 => ?_)
    · obtain ⟨l', e1, la, lvs, rfl, hla, pla⟩ := paired_atV pac hx
      obtain rfl : l' = l := Option.some.inj (e1.symm.trans hl)
      have el := paired_ints pla
      subst el
      have hla := only_in _ _ hla
      obtain ⟨dacc, hA⟩ := hA
      have hll : l'.length ≤ 7 := Nat.le_trans (asides_short i l' (List.mem_of_getElem? hl)) (by omega)
      refine ⟨rfl, _, rfl, _, rfl, (by show 1 ≤ sizeLine; decide), fun o no => ?_⟩
      have t1 := same_new no (.lst [V.int (0 + (i : Int))])
      refine ⟨la, o, _, _, rfl, rfl, (t1 _ _ (s4 _ _ hla)), upd_same, ?_, fun r nr => ?_⟩
      · rw [List.length_map]
        show l'.length + 1 ≤ sizeLine
        exact len_le (by omega)
      · have t2 := same_new nr (.lst (l'.map V.int ++ [V.int (0 + (i : Int))]))
        have nrD : r ≠ D := (ne_of_none ((t1 _ _ hA)) nr).symm
        have nrH : H r = none := ((s3.trans s4).trans t1).free nr
        refine hN _ _ _ rfl (t1.trans t2) ⟨r, _, rfl, only_at nrH (hide_at upd_same nrD), ?_⟩
        rw [Int.zero_add]
        exact paired_snoc (paired_ofInts l') rfl
    · obtain ⟨acc2, h1, h2⟩ := hm2
      rw [List.filterMap_eq_map'] at h2
      have hal2 : acc2.length ≤ 128 := by
        rw [paired_len h2, List.length_map, asides_len]
        exact pow_small (Nat.le_of_lt hi) h7
      refine ⟨fa, D, _, _, rfl, rfl, s4 _ _ hfa, h1, len_le (by omega), fun r nr => ?_⟩
      have t2 := same_new nr (.lst (acc ++ acc2))
      refine ⟨r, acc ++ acc2, _, _, rfl, (s3.trans s4).trans t2, (s3.trans s4).free nr, upd_same, ?_⟩
      exact paired_app (paired_mono (mono_lst mono_int) (only_same (s4.trans t2)) pac) (paired_mono (mono_lst mono_int) (only_same t2) h2)
  · rintro σ H' ⟨fa, acc, x2, x3, rfl, s3, nfa, hfa, pac⟩
    refine ⟨_, rfl, ?_⟩
    exact q fa H' s3 nfa ⟨acc, hfa, pac⟩
def spLiars (C : Addr) : Sp := fun vs H Q _ => ∃ (bv cv : V) (b : Bd) (ws : List Wd) (c F : List Int), vs = [bv, cv] ∧ BoardAt C b H bv ws ∧ ws.length ≤ 500 ∧ LstAt IntAt H cv c ∧ (∀ x ∈ ws, x.1.2 < c.length) ∧ (∀ x ∈ ws, ¬ In x.2 (cAt c x.1.2) → (x.1.1 : Int) ∈ F) ∧ F.length ≤ 60 ∧
  ∀ (ns : List Int) p H', ns.length ≤ F.length → Same H H' → H p = none → H' p = some (.lst (ns.map V.int)) → Q (.ref p) H'
theorem df_liars (T : Tx K mg "liars" sLiars) (B : Bi mg) (BC : BT K mg C) (TT : Dm P w K mg base C 1 "tellings" ["self"] (spTellings C)) (HH : Df P w K mg base 1 "holds" ["one", "number"] spHolds) : Df P w K mg base 2 "liars" ["board", "course"] (spLiars C) := by
  refine df_mk T (fun _ _ _ _ _ _ us hl => match us, hl with | [_, _], _ => rfl) fun f fd F _ => ?_
  obtain ⟨fT, fdT, FT, mT, bT⟩ := TT
  refine F.ok scLiars (fun vs H Q E h => ?_) (fun cdv A outer s H vs Q E hr h => ?_)
  · obtain ⟨bv, cv, b, ws, c, F, rfl, _⟩ := h
    rfl
  obtain ⟨bv, cv, b, ws, c, F, rfl, hb, hlen, ⟨ca, cvs, rfl, hc, pc⟩, htn, hF, hFl, q⟩ := h
  obtain ⟨a, dx, fs, d, rfl, ha, fl, tb⟩ := id hb
  have ec := paired_ints pc
  subst ec
  have hu := hu_of hr
  refine ⟨_, pss_cons (ps_set (i := 2) scLiars.nd rfl (Or.inl rfl) pe_dnewK)
    (pss_cons (ps_for PassesOwn.never rfl (pi_list (pe_meth0 (pv 0) BC.cl mT FT hr bT .nil pass0)) (pg_tup rfl (pgs_cons (pg_name (i := 3) scLiars.nd rfl (Or.inl rfl)) (pgs_cons (pg_name (i := 4) scLiars.nd rfl (Or.inl rfl)) (pgs_cons (pg_name (i := 5) scLiars.nd rfl (Or.inl rfl)) pgs_nil))))
      (pss_one (ps_if (pt_not (pt_val (callD HH hr (pa_cons (pv 5) (pa_cons (pe_ix ix_list (pv 1) (pv 4) (fun _ _ => rfl)) pa_nil))))) (pss_one (ps_dput hu (pv 2) (pv 3) pe_bl rfl)) pss_nil)))
    (pss_one (ps_ret (pe_callB cr_sorted (by rfl) B.sorted (by decide +kernel) (pa_cons (pe_callTy (call_list_dK rfl) (by rfl) B.list (by decide +kernel) (pa_cons (pv 2) pa_nil)) pa_nil))))), ?_⟩
  intro g ng
  have s0 := same_new ng (.dK [])
  refine ⟨_, rfl, a, dx, fs, rfl, s0 _ _ ha, fl.nTellings, _, b, ws, rfl, mono_board _ _ _ _ s0 hb, by omega, fun sw p H1 hsw hle s1 np hp => ?_⟩
  obtain ⟨tv, hp, ptv⟩ := hp
  have hsl := paired_len ptv
  have hg1 : H1 g = some (.dK []) := s1 _ _ upd_same
  refine ⟨p, rfl, ⟨_, lst_at hp⟩, for_list (K := K) (a := p) (xs := tv) (fun i σ H' => ∃ (x3 x4 x5 : Option V) (kvs : List (Key × V)), σ = [some (.ref a), some (.ref ca), some (.ref g), x3, x4, x5] ∧ Same H H' ∧ H' p = some (.lst tv) ∧ (∀ z ys, H1 z = some (.tup ys) → H' z = some (.tup ys)) ∧ H' g = some (.dK kvs) ∧ KeysIn kvs F)
    ⟨none, none, none, [], rfl, s0.trans s1, hp, fun _ _ e => e, hg1, [], rfl, List.nodup_nil, fun _ h => by cases h⟩ (fun i σ H' _ ⟨_, _, _, _, _, _, h, _⟩ => lst_at h) ?_ ?_⟩
  · rintro i x σ H' hx ⟨x3, x4, x5, kvs, rfl, s2, hp2, htup, hg2, hk⟩
    obtain ⟨y, e1, k, z, rfl, hkk, hz⟩ := paired_atV ptv hx
    have hym : y ∈ ws := hsw.mem_iff.mp (List.mem_of_getElem? e1)
    have ht := htn y hym
    have hcg : (c.map V.int)[y.1.2]? = some (.int (cAt c y.1.2)) := by
      rw [List.getElem?_map, List.getElem?_eq_getElem ht]
      unfold cAt
      rw [List.getD_eq_getElem?_getD, List.getElem?_eq_getElem ht]
      rfl
    refine ⟨k, _, rfl, tup_at (htup _ _ hkk), rfl, _, _, rfl, _, _, rfl, _, _, rfl, rfl, ?_⟩
    refine ⟨_, rfl, _, rfl, _, rfl, ca, _, _, _, rfl, rfl, lst_at (s2 _ _ hc), at_of (j := y.1.2) rfl hcg, _, y.2, cAt c y.1.2, rfl, ⟨z, rfl, htup _ _ hz⟩, _, rfl, ?_⟩
    by_cases hin : In y.2 (cAt c y.1.2)
    · rw [decide_eq_true hin]
      refine iteF ?_
      exact ⟨_, _, _, kvs, rfl, s2, hp2, htup, hg2, hk⟩
    · rw [decide_eq_false hin]
      have hmF := hF y hym hin
      obtain ⟨ns, en, nnd, nm⟩ := id hk
      have hkl : kvs.length ≤ 1000 := by
        have h1 : kvs.length = ns.length := by
          have := congrArg List.length en
          rwa [List.length_map, List.length_map] at this
        have := nodup_sub nnd nm
        omega
      refine iteT ⟨_, rfl, _, rfl, g, _, rfl, DPut.k (k := Sum.inl ((y.1.1 : Nat) : Int)) hg2 (small1000 hkl), ?_⟩
      refine ⟨_, _, _, _, rfl, fun u o e => ?_, ?_, fun z' ys e => ?_, upd_same, keysIn_put hk hmF _⟩
      · rw [upd_ne (ne_of_none e ng)]
        exact s2 _ _ e
      · rw [upd_ne (ne_of hp2 hg2 (by intro z; cases z))]
        exact hp2
      · rw [upd_ne (ne_of (htup _ _ e) hg2 (by intro z; cases z))]
        exact htup _ _ e
  · rintro σ H' ⟨x3, x4, x5, kvs, rfl, s2, hp2, htup, hg2, ns, en, nnd, nm⟩
    have hnl := nodup_sub nnd nm
    refine ⟨_, rfl, g, kvs, rfl, hg2, fun r nr => ?_⟩
    have el : (kvs.map fun kv => kV kv.1) = ns.map V.int := by
      have : (kvs.map fun kv => kV kv.1) = (kvs.map (·.1)).map kV := by rw [List.map_map]; rfl
      rw [this, en, List.map_map]
      rfl
    refine ⟨r, ns, rfl, .inl (.inl (by rw [upd_same, el])), by omega, fun ns' u pm _ nu => ?_⟩
    refine q ns' u _ (by rw [pm.length_eq]; exact hnl) ((s2.trans (same_new nr _)).trans (same_new nu _)) ((s2.trans (same_new nr _)).free nu) upd_same
def spFits (C : Addr) : Sp := fun vs H Q _ => ∃ (bv cv : V) (b : Bd) (ws : List Wd) (c F : List Int), vs = [bv, cv] ∧ BoardAt C b H bv ws ∧ ws.length ≤ 500 ∧ LstAt IntAt H cv c ∧ b.turns ≤ 12 ∧ (∀ x ∈ ws, x.1.2 < b.turns) ∧ Goes b [] c ∧ 1 ≤ b.turns ∧ (∀ x ∈ ws, ¬ In x.2 (cAt c x.1.2) → (x.1.1 : Int) ∈ F) ∧ F.length ≤ b.most ∧ b.most ≤ 60 ∧
  ∀ H', Same H H' → Q (.bl true) H'
theorem df_fits (T : Tx K mg "fits" sFits) (B : Bi mg) (BC : BT K mg C) (LL : Df P w K mg base 2 "liars" ["board", "course"] (spLiars C)) (HH : Df P w K mg base 1 "holds" ["one", "number"] spHolds) : Df P w K mg base 3 "fits" ["board", "course"] (spFits C) := by
  refine df_mk T (fun _ _ _ _ _ _ us hl => match us, hl with | [_, _], _ => rfl) fun f fd F _ => ?_
  refine F.ok scFits (fun vs H Q E h => ?_) (fun cdv A outer s H vs Q E hr h => ?_)
  · obtain ⟨bv, cv, b, ws, c, F, rfl, _⟩ := h
    rfl
  obtain ⟨bv, cv, b, ws, c, F, rfl, hb, hlen, hcc, ht12, htn, go, ht1, hF, hFl, hm, q⟩ := h
  obtain ⟨ca, cvs, rfl, hc, pc⟩ := id hcc
  obtain ⟨a, dx, fs, d, rfl, ha, fl, tb⟩ := id hb
  have ec := paired_ints pc
  subst ec
  have hcl := go.1
  have hat : ∀ k, k < b.turns → (c.map V.int)[k]? = some (.int (cAt c k)) := fun k hk => by
    rw [List.getElem?_map, List.getElem?_eq_getElem (by omega)]
    unfold cAt
    rw [List.getD_eq_getElem?_getD, List.getElem?_eq_getElem (by omega)]
    rfl
  refine ⟨_, pss_cons (ps_set (i := 2) scFits.nd rfl (Or.inl rfl) (pe_tup (pa_cons (pe_op op_sub pe_int (pe_fld (pv 0) rfl)) (pa_cons (pe_fld (pv 0) rfl) pa_nil))))
    (pss_cons (ps_for PassesOwn.never rfl (pi_range1 rfl B.range (pa_cons (pe_op op_sub (pe_callB call_len_seq (by rfl) B.len PySem.boot_len (pa_cons (pv 1) pa_nil)) pe_int) pa_nil)) (pg_name (i := 3) scFits.nd rfl (Or.inl rfl))
      (pss_one (ps_if (pt_not (pt_val (callD HH (hr.mono (by decide)) (pa_cons (pv 2) (pa_cons (pe_op op_sub (pe_ix ix_list (pv 1) (pe_op op_add (pv 3) pe_int) (fun _ _ => rfl)) (pe_ix ix_list (pv 1) (pv 3) (fun _ _ => rfl))) pa_nil))))) (pss_one (ps_ret pe_bl)) pss_nil)))
    (pss_one (ps_ret (pe_cmpR op_le (pe_callB call_len_seq (by rfl) B.len PySem.boot_len (pa_cons (callD LL hr (pa_cons (pv 0) (pa_cons (pv 1) pa_nil))) pa_nil)) (pe_fld (pv 0) rfl) (nomark _))))), ?_⟩
  refine ⟨_, rfl, a, C, dx, fs, _, rfl, ha, BC.cl, BC.nD, fl.down, _, _, rfl, rfl, _, rfl, a, C, dx, fs, _, rfl, ha, BC.cl, BC.nU, fl.up, (by show 2 ≤ sizeLine; decide), fun o no => ?_⟩
  have s0 : Same H (upd H o (.tup [.int (0 - b.down), .int b.up])) := same_new no _
  have ho : (upd H o (.tup [.int (0 - b.down), .int b.up])) o = some (.tup [.int (0 - b.down), .int b.up]) := upd_same
  generalize upd H o (.tup [.int (0 - b.down), .int b.up]) = H1 at *
  have hml : (c.map V.int).length = b.turns := by rw [List.length_map, hcl]
  refine ⟨_, rfl, ca, _, rfl, .inl (lst_at (s0 _ _ hc)), _, _, rfl, rfl, _, rfl, by omega, by omega, ?_⟩
  refine for_range (lo := 0) (n := (((c.map V.int).length : Int) - 1).toNat) (fun i σ H' => ∃ x3, σ = [some (.ref a), some (.ref ca), some (.ref o), x3] ∧ H' = H1) ⟨none, rfl, rfl⟩ ?_ ?_
  · rintro i σ H' hi ⟨x3, rfl, rfl⟩
    have hi2 : i + 1 < b.turns := by omega
    have g := go.2.1 i hi2
    refine ⟨_, rfl, _, rfl, _, rfl, _, _, rfl, rfl, ca, _, _, _, rfl, rfl, lst_at (s0 _ _ hc), at_of (j := i + 1) (by omega) (hat _ hi2), _, rfl, _, rfl, ca, _, _, _, rfl, rfl, lst_at (s0 _ _ hc), at_of (j := i) (by omega) (hat _ (by omega)), _, _, rfl, rfl, ?_⟩
    refine ⟨_, (some (-b.down), some b.up), _, rfl, ⟨o, rfl, by rw [Int.zero_sub] at ho; exact ho⟩, _, rfl, ?_⟩
    rw [show decide (In (some (-b.down), some b.up) (cAt c (i + 1) - cAt c i)) = true from decide_eq_true g]
    refine iteF ?_
    exact ⟨_, rfl, rfl⟩
  · rintro σ H' ⟨x3, rfl, rfl⟩
    refine ⟨_, rfl, _, rfl, _, _, b, ws, c, F, rfl, mono_board _ _ _ _ s0 hb, hlen, mono_lst mono_int _ _ _ _ s0 hcc, fun x hx => by rw [hcl]; exact htn x hx, hF, by omega, fun ns p H2 hns s2 np hp => ?_⟩
    refine ⟨p, _, rfl, .inl (lst_at hp), _, rfl, a, C, dx, fs, _, rfl, (s0.trans s2) _ _ ha, BC.cl, BC.nM, fl.most, _, _, rfl, rfl, ?_⟩
    show Q (.bl (decide ((((ns.map V.int).length : Nat) : Int) ≤ (b.most : Int)))) H2
    rw [show decide ((((ns.map V.int).length : Nat) : Int) ≤ (b.most : Int)) = true from decide_eq_true (by rw [List.length_map]; omega)]
    exact q H2 (s0.trans s2)
end
end Gz
namespace Gz
open PySem PySem.Spec PyProof.Rows L2
/-! ## the steps that a claim leaves -/
theorem stepsM_len (b : Bd) (cl : List Pt) : (stepsM b cl).length = b.turns - 1 := by unfold stepsM; rw [List.length_map, List.length_range]
theorem goalsM_len (b : Bd) (cl : List Pt) : (goalsM b cl).length = b.turns := by unfold goalsM; rw [List.length_map, List.length_range]
theorem stepsM_get (b : Bd) (cl : List Pt) {k : Nat} (h : k < (stepsM b cl).length) : (stepsM b cl)[k] = toStep (commonM (some (-b.down), some b.up) cl .step k) := by
  have e : (stepsM b cl)[k]? = some (toStep (commonM (some (-b.down), some b.up) cl .step k)) := by
    rw [stepsM_len] at h
    unfold stepsM
    rw [List.getElem?_map, List.getElem?_range h]
    rfl
  exact (List.getElem?_eq_some_iff.mp e).2
theorem step_in (b : Bd) (cl : List Pt) (k : Nat) (n : Int) : ((toStep (commonM (some (-b.down), some b.up) cl .step k)).1 ≤ n ∧ n ≤ (toStep (commonM (some (-b.down), some b.up) cl .step k)).2) ↔ In (commonM (some (-b.down), some b.up) cl .step k) n := by
  obtain ⟨⟨l, e1⟩, u, e2⟩ := common_some .step k cl (some (-b.down), some b.up) ⟨_, rfl⟩ ⟨_, rfl⟩
  unfold toStep In
  rw [e1, e2]
  exact Iff.rfl
theorem goes_step {b : Bd} {cl : List Pt} {c : List Int} (g : Goes b cl c) {k : Nat} (h : k + 1 < b.turns) : In (commonM (some (-b.down), some b.up) cl .step k) (cAt c (k + 1) - cAt c k) := by
  refine (common_in _ _ _ _ _).mpr ⟨g.2.1 k h, fun p hp h1 h2 => ?_⟩
  have z := g.2.2 p hp
  obtain ⟨k', t', sn⟩ := p
  cases h1
  cases h2
  exact z
theorem goes_goal {b : Bd} {cl : List Pt} {c : List Int} (g : Goes b cl c) (t : Nat) : In (commonM (none, none) cl .at t) (cAt c t) := by
  refine (common_in _ _ _ _ _).mpr ⟨⟨trivial, trivial⟩, fun p hp h1 h2 => ?_⟩
  have z := g.2.2 p hp
  obtain ⟨k', t', sn⟩ := p
  cases h1
  cases h2
  exact z
theorem goes_steps {b : Bd} {cl : List Pt} {c : List Int} (g : Goes b cl c) (h1 : 1 ≤ b.turns) : Steps (stepsM b cl) c := by
  refine ⟨by rw [stepsM_len, g.1]; omega, fun k hk => ?_⟩
  rw [stepsM_get]
  rw [stepsM_len] at hk
  exact (step_in b cl k _).mpr (goes_step g (by omega))
theorem goes_ok {b : Bd} {cl : List Pt} {c : List Int} (g : Goes b cl c) : StOk (stepsM b cl) := fun p hp => by
  obtain ⟨k, hk, e⟩ := List.getElem_of_mem hp
  rw [stepsM_get] at e
  rw [stepsM_len] at hk
  have z := (step_in b cl k _).mpr (goes_step g (show k + 1 < b.turns by omega))
  rw [e] at z
  omega
/-- and back -/
theorem steps_goes {b : Bd} {cl : List Pt} {c : List Int} (h1 : 1 ≤ b.turns) (hs : Steps (stepsM b cl) c) (hok : ∀ p ∈ cl, PtOk b.turns p) (hg : ∀ t, t < b.turns → In (commonM (none, none) cl .at t) (cAt c t)) : Goes b cl c := by
  have hl := hs.1
  rw [stepsM_len] at hl
  have st : ∀ k, k + 1 < b.turns → In (commonM (some (-b.down), some b.up) cl .step k) (cAt c (k + 1) - cAt c k) := fun k hk => by
    have z := hs.2 k (by rw [stepsM_len]; omega)
    rw [stepsM_get] at z
    exact (step_in b cl k _).mp z
  refine ⟨by omega, fun k hk => ((common_in _ _ _ _ _).mp (st k hk)).1, fun p hp => ?_⟩
  have ho := hok p hp
  obtain ⟨k, t, sn⟩ := p
  cases k with
  | «at» => exact ((common_in _ _ _ _ _).mp (hg t ho)).2 _ hp rfl rfl
  | step => exact ((common_in _ _ _ _ _).mp (st t ho)).2 _ hp rfl rfl
section
variable {P : Program} {w : World} {K : PySem.W.Frag} {mg : Str → Option Value} {base : Heap} {C : Addr}
def HasC (turns : Nat) (c : List Int) (rs : List Sn) : Prop := ∀ t, t < turns → ∃ s, rs[t]? = some s ∧ In s (cAt c t)
def TubeOk (turns : Nat) (rs : List Sn) : Prop := rs.length = turns ∧ ∀ s ∈ rs, Full s
/-- what is known of a board whose liars are drawn -/
def Fitting (b : Bd) (ws : List Wd) (c F : List Int) : Prop := BOk b ∧ ws.length ≤ 100 ∧ (∀ x ∈ ws, x.1.2 < b.turns) ∧ Goes b [] c ∧ F ∈ asides b.eyes ∧ F.length = b.most ∧ ∀ x ∈ ws, (x.1.1 : Int) ∉ F → In x.2 (cAt c x.1.2)
def spAllTubes (C : Addr) : Sp := fun vs H Q _ => ∃ (bv : V) (b : Bd) (ws : List Wd) (c F : List Int), vs = [bv] ∧ BoardAt C b H bv ws ∧ Fitting b ws c F ∧
  ∀ (rss : List (List Sn)) p H', (∀ rs ∈ rss, TubeOk b.turns rs) → (∃ rs ∈ rss, HasC b.turns c rs) → rss.length ≤ 128 → Same H H' → H p = none → (∃ acc, H' p = some (.lst acc) ∧ Paired (LstAt SpanAt H') acc rss) → Q (.ref p) H'
theorem df_all_tubes (T : Tx K mg "all_tubes" sAllTubes) (B : Bi mg) (BC : BT K mg C) (PA : Df P w K mg base 3 "paces" ["board", "claim"] (spPaces C)) (EA : Df P w K mg base 1 "eyes_aside" ["many"] spEyesAside)
    (TU : Df P w K mg base 4 "tube" ["steps", "marks"] spTube) (MW : Df P w K mg base 2 "marks_without" ["board", "some"] (spMarksWithout C)) : Df P w K mg base 5 "all_tubes" ["board"] (spAllTubes C) := by
  refine df_mk T (fun _ _ _ _ _ _ us hl => match us, hl with | [_], _ => rfl) fun f fd F0 _ => ?_
  refine F0.ok scAllTubes (fun vs H Q E h => ?_) (fun cdv A outer s H vs Q E hr h => ?_)
  · obtain ⟨bv, b, ws, c, F, rfl, _⟩ := h
    rfl
  obtain ⟨bv, b, ws, c, F, rfl, hb, ⟨⟨o1, o2, o3, o4, o5, o6, o7⟩, hlen, htn, go, hF, hFl, hw⟩, q⟩ := h
  obtain ⟨a, dx, fs, d, rfl, ha, fl, tb⟩ := id hb
  have hst := goes_steps go o3
  have hok := goes_ok go
  have hsl := stepsM_len b []
  refine ⟨_, pss_cons (ps_set (i := 1) scAllTubes.nd rfl (Or.inl rfl) (callD PA (hr.mono (by decide)) (pa_cons (pv 0) (pa_cons (pe_lst pa_nil) pa_nil))))
    (pss_cons (ps_set (i := 2) scAllTubes.nd rfl (Or.inl rfl) (pe_lst pa_nil))
    (pss_cons (ps_for PassesOwn.never rfl (pi_list (callD EA (hr.mono (by decide)) (pa_cons (pe_fld (pv 0) rfl) pa_nil))) (pg_name (i := 3) scAllTubes.nd rfl (Or.inl rfl))
      (pss_one (ps_if (pt_cmpR op_eq (pe_callB call_len_seq (by rfl) B.len PySem.boot_len (pa_cons (pv 3) pa_nil)) (pe_fld (pv 0) rfl) (nomark _))
        (pss_cons (ps_set (i := 4) scAllTubes.nd rfl (Or.inl rfl) (callD TU hr (pa_cons (pv 1) (pa_cons (callD MW (hr.mono (by decide)) (pa_cons (pv 0) (pa_cons (pv 3) pa_nil))) pa_nil))))
        (pss_one (ps_if (pt_cmpR op_notN (pv 4) pe_non (nomark _)) (pss_one (ps_expr (pe_bm PySem.F.plainAttrs_list PySem.F.slot_list_append PySem.F.type_list_append mt_append (pv 2) (pa_cons (pv 4) pa_nil)))) pss_nil))) pss_nil)))
    (pss_one (ps_ret (pv 2))))), ?_⟩
  refine ⟨_, rfl, Nat.zero_le _, fun e ne => ?_⟩
  have s1 := same_new ne (.lst [])
  refine ⟨_, _, b, ws, [], c, rfl, mono_board _ _ _ _ s1 hb, ⟨e, [], rfl, upd_same, .nil⟩, (fun p hp => (by cases hp)), o3, o4, go, fun sp H1 s2 nsp hsp => ?_⟩
  obtain ⟨svs, hsp, psp⟩ := hsp
  refine ⟨Nat.zero_le _, fun l nl => ?_⟩
  have s3 := same_new nl (.lst [])
  have s03 := (s1.trans s2).trans s3
  have nlH : H l = none := (s1.trans s2).free nl
  refine ⟨_, rfl, a, C, dx, fs, _, rfl, s03 _ _ ha, BC.cl, BC.nE, fl.eyes, b.eyes, rfl, o2, fun y H2 s4 ny hy => ?_⟩
  obtain ⟨yvs, hy, py⟩ := hy
  have hyl := paired_len py
  have s04 := s03.trans s4
  have nspl : sp ≠ l := ne_of_none hsp nl
  have nyl : y ≠ l := (ne_of_none upd_same ny).symm
  refine ⟨y, rfl, ⟨_, lst_at hy⟩, for_list (K := K) (a := y) (xs := yvs) (fun i σ H' => ∃ (x3 x4 : Option V) (rss : List (List Sn)), σ = [some (.ref a), some (.ref sp), some (.ref l), x3, x4] ∧ H' y = some (.lst yvs) ∧ H' sp = some (.lst svs) ∧ Paired (StepAt H') svs (stepsM b []) ∧ Paired (LstAt IntAt (hide H' l)) yvs (asides b.eyes) ∧ Made (LstAt SpanAt) H l rss H' ∧
      (∀ rs ∈ rss, TubeOk b.turns rs) ∧ rss.length ≤ i ∧ (∀ j, j < i → (asides b.eyes)[j]? = some F → ∃ rs ∈ rss, HasC b.turns c rs))
    ⟨none, none, [], rfl, hy, (s3.trans s4) _ _ hsp, paired_mono mono_step (s3.trans s4) psp, ?_, ⟨s04, [], s4 _ _ upd_same, .nil⟩, (fun rs h => (by cases h)), Nat.zero_le _, fun j h => absurd h (Nat.not_lt_zero _)⟩ (fun i σ H' _ ⟨_, _, _, _, h, _⟩ => lst_at h) ?_ ?_⟩
  · exact paired_mono (mono_lst mono_int) (only_hide (upd_same (H := H1) (a := l) (o := .lst []))) py
  · rintro i x σ H' hx ⟨x3, x4, rss, rfl, hy', hsp', psp', py', m, ok, hrl, wit⟩
    obtain ⟨sm, tacc, hl', ptr⟩ := id m
    obtain ⟨G, e1, ga, gvs, rfl, hg, pgv⟩ := paired_atV py' hx
    have eg := paired_ints pgv
    subst eg
    have hg' : H' ga = some (.lst (G.map V.int)) := hide_in _ _ hg
    have hi : i < (asides b.eyes).length := (List.getElem?_eq_some_iff.mp e1).1
    rw [asides_len] at hi
    have hi128 := pow_small o2 (Nat.le_refl 7)
    have trl := paired_len ptr
    refine u_if ?_
    refine ⟨_, rfl, ga, _, rfl, .inl (lst_at hg'), _, rfl, a, C, dx, fs, _, rfl, sm _ _ ha, BC.cl, BC.nM, fl.most, rfl, _, rfl, ?_⟩
    by_cases eL : G.length = b.most
    · rw [show decide (V.int (((G.map V.int).length : Nat) : Int) = V.int (b.most : Int)) = true from decide_eq_true (by rw [List.length_map, eL])]
      refine iteT ?_
      refine ⟨_, rfl, _, rfl, _, rfl, _, _, b, ws, G, rfl, mono_board _ _ _ _ sm hb, by omega, ⟨ga, _, rfl, hg', paired_ofInts G⟩, fun ms mp H3 hms hml s5 nmp hmp => ?_⟩
      obtain ⟨macc, hmp, pms⟩ := hmp
      have hbd : ∀ m ∈ ms, m.1 ≤ (stepsM b []).length := fun m hm => by
        obtain ⟨x, hx, _, rfl⟩ := (hms m).mp hm
        have := htn x hx
        rw [hsl]
        show x.1.2 ≤ _
        omega
      have keep : ∀ (H4 : Hp) x4' rss', Made (LstAt SpanAt) H l rss' H4 → (∀ rs ∈ rss', TubeOk b.turns rs) → rss'.length ≤ i + 1 → (∀ j, j < i + 1 → (asides b.eyes)[j]? = some F → ∃ rs ∈ rss', HasC b.turns c rs) → Paired (LstAt IntAt (hide H4 l)) yvs (asides b.eyes) → H4 y = some (.lst yvs) → H4 sp = some (.lst svs) → Paired (StepAt H4) svs (stepsM b []) →
          ∃ (x3 x4 : Option V) (rss : List (List Sn)), [some (V.ref a), some (V.ref sp), some (V.ref l), some (V.ref ga), x4'] = [some (V.ref a), some (V.ref sp), some (V.ref l), x3, x4] ∧ H4 y = some (.lst yvs) ∧ H4 sp = some (.lst svs) ∧ Paired (StepAt H4) svs (stepsM b []) ∧ Paired (LstAt IntAt (hide H4 l)) yvs (asides b.eyes) ∧ Made (LstAt SpanAt) H l rss H4 ∧
            (∀ rs ∈ rss, TubeOk b.turns rs) ∧ rss.length ≤ i + 1 ∧ (∀ j, j < i + 1 → (asides b.eyes)[j]? = some F → ∃ rs ∈ rss, HasC b.turns c rs) :=
        fun H4 x4' rss' h1 h2 h3 h4 h5 h6 h7 h8 => ⟨_, _, rss', rfl, h6, h7, h8, h5, h1, h2, h3, h4⟩
      refine ⟨_, _, stepsM b [], ms, rfl, ⟨sp, svs, rfl, s5 _ _ hsp', paired_mono mono_step s5 psp'⟩, ⟨mp, macc, rfl, hmp, pms⟩, hbd, by rw [hsl]; omega, by omega, fun nc H4 s6 => ?_, fun nc rp H4 s6 nrp hrp => ?_⟩
      · have s56 := s5.trans s6
        refine ⟨_, rfl, rfl, _, rfl, iteF ?_⟩
        refine keep _ _ rss (made_same (mono_lst mono_span) m s56) ok (by omega) (fun j hj eF => ?_) (paired_mono (mono_lst mono_int) (hide_same s56) py') (s56 _ _ hy') (s56 _ _ hsp') (paired_mono mono_step s56 psp')
        by_cases ej : j = i
        · subst ej
          have eGF : G = F := Option.some.inj (e1.symm.trans eF)
          refine absurd (fun m hm m' hm' => ?_) nc
          obtain ⟨x, hx, hxF, rfl⟩ := (hms m).mp hm
          obtain ⟨x', hx', hxF', rfl⟩ := (hms m').mp hm'
          rw [eGF] at hxF hxF'
          exact held_noclash hst (hw x hx hxF) (hw x' hx' hxF') (hbd _ hm) (hbd _ hm')
        · exact wit j (by omega) eF
      · have s56 := s5.trans s6
        obtain ⟨racc, hrp, prs⟩ := hrp
        refine ⟨_, rfl, rfl, _, rfl, iteT ?_⟩
        have hl4 : H4 l = some (.lst tacc) := s56 _ _ hl'
        have nrl : rp ≠ l := (ne_of_none (s5 _ _ hl') nrp).symm
        have rok : TubeOk b.turns (roomsF (stepsM b []) ms) := by
          refine ⟨by rw [roomsF_len, hsl]; omega, fun s hs => ?_⟩
          obtain ⟨t, ht, e⟩ := List.getElem_of_mem hs
          exact room_full hok (roomsF_is (t := t) (by rw [List.getElem?_eq_getElem ht, e])) nc
        obtain ⟨acc3, q1, q2, q3⟩ := made_snoc (mono_lst mono_span) nlH m s56 (y := roomsF (stepsM b []) ms) (yv := .ref rp) ⟨rp, racc, rfl, hide_at hrp nrl, paired_off off_span hl4 prs⟩ (len_lt (by omega))
        refine ⟨_, rfl, .inl ⟨rfl, _, lst_at hl4⟩, _, rfl, l, acc3, _, rfl, rfl, q1, q2, ?_⟩
        refine keep _ _ (rss ++ [roomsF (stepsM b []) ms]) q3 (fun rs hrs => ?_) (by rw [List.length_append, List.length_singleton]; omega) (fun j hj eF => ?_) ?_ ?_ ?_ ?_
        · rcases List.mem_append.mp hrs with z | z
          · exact ok rs z
          · have : rs = roomsF (stepsM b []) ms := by simpa using z
            rw [this]
            exact rok
        · by_cases ej : j = i
          · subst ej
            have eGF : G = F := Option.some.inj (e1.symm.trans eF)
            refine ⟨_, List.mem_append.mpr (.inr (List.mem_singleton.mpr rfl)), fun t ht => ⟨_, roomsF_at (by rw [hsl]; omega), ?_⟩⟩
            refine room_in (roomF_ok _ _ t) hst (fun m0 hm0 => ?_) hbd (by rw [hsl]; omega)
            obtain ⟨x, hx, hxF, rfl⟩ := (hms m0).mp hm0
            rw [eGF] at hxF
            exact hw x hx hxF
          · obtain ⟨rs, h1, h2⟩ := wit j (by omega) eF
            exact ⟨rs, List.mem_append.mpr (.inl h1), h2⟩
        · rw [hide_upd]
          exact paired_mono (mono_lst mono_int) (hide_same s56) py'
        · rw [upd_ne nyl]
          exact s56 _ _ hy'
        · rw [upd_ne nspl]
          exact s56 _ _ hsp'
        · have z := paired_off off_step hl4 (paired_mono mono_step s56 psp')
          rw [← hide_upd (o := .lst (acc3 ++ [.ref rp]))] at z
          exact paired_mono mono_step hide_in z
    · rw [show decide (V.int (((G.map V.int).length : Nat) : Int) = V.int (b.most : Int)) = false from decide_eq_false fun z => eL (by
        injection z with z
        rw [List.length_map] at z
        omega)]
      refine iteF ?_
      refine ⟨_, _, rss, rfl, hy', hsp', psp', py', m, ok, by omega, fun j hj eF => ?_⟩
      by_cases ej : j = i
      · subst ej
        have eGF : G = F := Option.some.inj (e1.symm.trans eF)
        exact absurd (by rw [eGF]; exact hFl) eL
      · exact wit j (by omega) eF
  · rintro σ H' ⟨x3, x4, rss, rfl, hy', hsp', psp', py', m, ok, hrl, wit⟩
    refine ⟨_, rfl, ?_⟩
    obtain ⟨j, hj, ej⟩ := List.getElem_of_mem hF
    have hj2 := hj
    rw [asides_len] at hj2
    have hp7 := pow_small (i := b.eyes) (Nat.le_refl _) o2
    rw [asides_len] at hyl
    exact q rss l H' ok (wit j (by rw [hyl]; exact hj2) (by rw [List.getElem?_eq_getElem hj, ej])) (by omega) m.1 nlH (made_end (mono_lst mono_span) m)
end
end Gz
namespace Gz
open PySem PySem.Spec PyProof.Rows L2
section
variable {P : Program} {w : World} {K : PySem.W.Frag} {mg : Str → Option Value} {base : Heap} {C : Addr}
theorem mono_rooms : Mono (LstAt SpanAt) := mono_lst mono_span
/-- the column of a turn -/
def colF (t : Nat) (rs : List Sn) : Sn := rs.getD t (none, none)
theorem col_at {t turns : Nat} {rs : List Sn} (h : TubeOk turns rs) (ht : t < turns) : rs[t]? = some (colF t rs) := by
  unfold colF
  rw [List.getD_eq_getElem?_getD, List.getElem?_eq_getElem (by rw [h.1]; exact ht)]
  rfl
theorem col_full {t turns : Nat} {rs : List Sn} (h : TubeOk turns rs) (ht : t < turns) : Full (colF t rs) := h.2 _ (List.mem_of_getElem? (col_at h ht))
def spPlaces (C : Addr) : Sp := fun vs H Q _ => ∃ (bv : V) (b : Bd) (ws : List Wd) (c F : List Int) (t : Nat), vs = [bv, .int (t : Int)] ∧ BoardAt C b H bv ws ∧ Fitting b ws c F ∧ t < b.turns ∧
  ∀ ts p H', (∃ s ∈ ts, In s (cAt c t)) → ts.length ≤ 1000 → Same H H' → H p = none → (∃ acc, H' p = some (.lst acc) ∧ Paired (SpanAt H') acc ts) → Q (.ref p) H'
theorem df_places (T : Tx K mg "places" sPlaces) (B : Bi mg) (BC : BT K mg C) (AT : Df P w K mg base 5 "all_tubes" ["board"] (spAllTubes C)) (G : Df P w K mg base 4 "gathered" ["some"] spGathered) : Df P w K mg base 6 "places" ["board", "turn"] (spPlaces C) := by
  refine df_mk T (fun _ _ _ _ _ _ us hl => match us, hl with | [_, _], _ => rfl) fun f fd F0 _ => ?_
  refine F0.ok scPlaces (fun vs H Q E h => ?_) (fun cdv A outer s H vs Q E hr h => ?_)
  · obtain ⟨bv, b, ws, c, F, t, rfl, _⟩ := h
    rfl
  obtain ⟨bv, b, ws, c, F, t, rfl, hb, hf, ht, q⟩ := h
  obtain ⟨a, dx, fs, d, rfl, ha, fl, tb⟩ := id hb
  refine ⟨_, pss_cons (ps_if (PW.pt (pw_or (pt_cmpR op_lt (pv 1) pe_int (nomark _)) (pw_or1 (pt_cmpR op_ge (pv 1) (pe_fld (pv 0) rfl) (nomark _))))) (pss_one ps_never) pss_nil)
    (pss_one (ps_ret (callD G (hr.mono (by decide)) (pa_cons (pe_lc (own := [("rooms", 2)]) (g := gName 2) (by rfl) scPlaces.nd (pi_list (callD AT hr (pa_cons (pv 0) pa_nil)))
        (blkOk_by (own := [("rooms", 2)]) (N := ["board", "turn", "rooms"]) (sc := defScope sPlaces) (by decide +kernel)) (fun _ _ _ _ _ => pg_name (i := 2) scPlaces.nd rfl (Or.inl rfl)) (fun _ _ _ _ _ => pts_nil)
        (fun _ _ _ _ _ => pe_ix (ixL K) (pv 2) (pv 1) (fun _ _ => rfl))) pa_nil)))), ?_⟩
  refine u_if1 ?_
  refine ⟨_, rfl, _, _, rfl, rfl, _, rfl, ?_⟩
  rw [show decide ((t : Int) < 0) = false from decide_eq_false (by omega)]
  refine iteF ⟨_, rfl, _, rfl, a, C, dx, fs, _, rfl, ha, BC.cl, BC.nT, fl.turns, _, _, rfl, rfl, _, rfl, ?_⟩
  rw [show decide ((b.turns : Int) ≤ (t : Int)) = false from decide_eq_false (by omega)]
  refine iteF ?_
  refine u_ret (u_call (u_cons (tLc_of ?_)))
  refine ⟨_, rfl, _, b, ws, c, F, rfl, hb, hf, fun rss r H1 hok hwit hrl s1 nr hrr => ?_⟩
  obtain ⟨racc, hrr, prs⟩ := hrr
  refine ⟨r, rfl, ⟨_, lst_at hrr⟩, ?_⟩
  refine lc_fm (H1 := H1) mono_span off_span (fun rs : List Sn => some (colF t rs)) (paired_len prs) hrr (len_lt (by rw [paired_len prs]; omega)) (fun i x rs H' N C0 hx hrs s2 hN hC => ?_) (fun D H' nD s2 hm2 => ?_)
  · obtain ⟨rs', e1, ra, rvs, rfl, hra, pr⟩ := paired_atV prs hx
    obtain rfl : rs' = rs := Option.some.inj (e1.symm.trans hrs)
    have htk := hok rs' (List.mem_of_getElem? hrs)
    obtain ⟨v, e2, hv⟩ := paired_at pr (col_at htk ht)
    refine ⟨rfl, _, rfl, _, rfl, ra, rvs, _, v, rfl, rfl, lst_at (s2 _ _ hra), at_of (j := t) rfl e2, ?_⟩
    exact hN _ _ _ rfl (Same.refl _) (mono_span _ _ _ _ s2 hv)
  · obtain ⟨acc, h1, h2⟩ := hm2
    rw [List.filterMap_eq_map'] at h2
    refine ⟨_, rss.map (colF t), rfl, ⟨D, acc, rfl, h1, h2⟩, fun s hs => ?_, by rw [List.length_map]; omega, fun ts p H2 g htl s3 np hp => ?_⟩
    · obtain ⟨rs, hrs, rfl⟩ := List.mem_map.mp hs
      exact col_full (hok rs hrs) ht
    · obtain ⟨rs, hrs, hc⟩ := hwit
      obtain ⟨s, e, hs⟩ := hc t ht
      have ec : colF t rs = s := by
        have z := col_at (hok rs hrs) ht
        rw [e] at z
        exact (Option.some.inj z).symm
      refine q ts p H2 (g.cov _ (List.mem_map.mpr ⟨rs, hrs, rfl⟩) _ (by rw [ec]; exact hs)) htl ((s1.trans s2).trans s3) ((s1.trans s2).free np) hp
def spStrips (C : Addr) : Sp := fun vs H Q _ => ∃ (bv : V) (b : Bd) (ws : List Wd) (c F : List Int), vs = [bv] ∧ BoardAt C b H bv ws ∧ Fitting b ws c F ∧
  ∀ ss p H', ss.length = b.turns → (∀ t s, ss[t]? = some s → In s (cAt c t)) → Same H H' → H p = none → (∃ acc, H' p = some (.lst acc) ∧ Paired (SpanAt H') acc ss) → Q (.ref p) H'
theorem df_strips (T : Tx K mg "strips" sStrips) (B : Bi mg) (BC : BT K mg C) (AT : Df P w K mg base 5 "all_tubes" ["board"] (spAllTubes C)) (G : Df P w K mg base 5 "hull" ["some"] spHull) : Df P w K mg base 6 "strips" ["board"] (spStrips C) := by
  refine df_mk T (fun _ _ _ _ _ _ us hl => match us, hl with | [_], _ => rfl) fun f fd F0 _ => ?_
  refine F0.ok scStrips (fun vs H Q E h => ?_) (fun cdv A outer s H vs Q E hr h => ?_)
  · obtain ⟨bv, b, ws, c, F, rfl, _⟩ := h
    rfl
  obtain ⟨bv, b, ws, c, F, rfl, hb, hf, q⟩ := h
  obtain ⟨a, dx, fs, d, rfl, ha, fl, tb⟩ := id hb
  have ht12 : b.turns ≤ 12 := hf.1.2.2.2.1
  refine ⟨_, pss_cons (ps_set (i := 1) scStrips.nd rfl (Or.inl rfl) (callD AT hr (pa_cons (pv 0) pa_nil)))
    (pss_cons (ps_set (i := 2) scStrips.nd rfl (Or.inl rfl) (pe_lst pa_nil))
    (pss_cons (ps_for PassesOwn.never rfl (pi_range1 rfl B.range (pa_cons (pe_fld (pv 0) rfl) pa_nil)) (pg_name (i := 3) scStrips.nd rfl (Or.inr rfl))
      (pss_one (ps_expr (pe_bm PySem.F.plainAttrs_list PySem.F.slot_list_append PySem.F.type_list_append mt_append (pv 2) (pa_cons (callD G hr (pa_cons (pe_lc (own := [("rooms", 4)]) (g := gName 4) (by rfl) scStrips.nd (pi_list (pv 1))
        (blkOk_by (own := [("rooms", 4)]) (N := ["board", "some", "found", "turn", "rooms"]) (sc := defScope sStrips) (by decide +kernel)) (fun _ _ _ _ _ => pg_name (i := 4) scStrips.nd rfl (Or.inl rfl)) (fun _ _ _ _ _ => pts_nil)
        (fun _ _ _ _ _ => pe_ix (ixL K) (pv 4) (pv 3) (fun _ _ => rfl))) pa_nil)) pa_nil)))))
    (pss_one (ps_ret (pv 2))))), ?_⟩
  refine ⟨_, rfl, _, b, ws, c, F, rfl, hb, hf, fun rss r H1 hok hwit hrl s1 nr hrr => ?_⟩
  obtain ⟨racc, hrr, prs⟩ := hrr
  refine ⟨Nat.zero_le _, fun l nl => ?_⟩
  have nlH : H l = none := s1.free nl
  have s2 := same_new nl (.lst [])
  refine ⟨_, rfl, a, C, dx, fs, _, rfl, (s1.trans s2) _ _ ha, BC.cl, BC.nT, fl.turns, _, rfl, by omega, by omega, ?_⟩
  refine for_range (lo := 0) (n := b.turns) (fun i σ H' => ∃ (x3 : Option V) (ss : List Sn), σ = [some (.ref a), some (.ref r), some (.ref l), x3, none] ∧ Made SpanAt H1 l ss H' ∧ ss.length = i ∧ ∀ t s, ss[t]? = some s → In s (cAt c t))
    ⟨none, [], rfl, made_nil nl, rfl, fun t s h => by simp at h⟩ ?_ ?_
  · rintro i σ H' hi ⟨x3, ss, rfl, m, hsl, hin⟩
    obtain ⟨sm, tacc, hl', pts⟩ := id m
    have hne : rss.map (colF i) ≠ [] := by
      obtain ⟨rs, hrs, _⟩ := hwit
      intro z
      have hm : colF i rs ∈ rss.map (colF i) := List.mem_map.mpr ⟨rs, hrs, rfl⟩
      rw [z] at hm
      cases hm
    have fin : ∀ s p H2, (∀ x ∈ rss.map (colF i), ∀ n, In x n → In s n) → Same H' H2 → H' p = none → H2 p = some (.tup [vO s.1, vO s.2]) → ∃ acc3, H2 l = some (.lst acc3) ∧ acc3.length < sizeLine ∧ Made SpanAt H1 l (ss ++ [s]) (upd H2 l (.lst (acc3 ++ [.ref p]))) ∧ (ss ++ [s]).length = i + 1 ∧ ∀ t s', (ss ++ [s])[t]? = some s' → In s' (cAt c t) := by
      intro s p H2 hcov s3 np hp
      obtain ⟨acc3, q1, q2, q3⟩ := made_snoc mono_span nl m s3 (off_span _ _ _ (.ref p) s (s3 _ _ hl') ⟨p, rfl, hp⟩) (len_lt (by omega))
      refine ⟨acc3, q1, q2, q3, by rw [List.length_append, List.length_singleton, hsl], fun t s' e => ?_⟩
      by_cases h : t < ss.length
      · rw [List.getElem?_append_left h] at e
        exact hin t s' e
      · rw [List.getElem?_append_right (by omega)] at e
        have ht : t = i := by
          have := (List.getElem?_eq_some_iff.mp e).1
          rw [List.length_singleton] at this
          omega
        rw [ht, hsl, Nat.sub_self] at e
        have e : s = s' := Option.some.inj e
        obtain ⟨rs, hrs, hc⟩ := hwit
        obtain ⟨s0, e0, hs0⟩ := hc i hi
        have ec : colF i rs = s0 := by
          have z := col_at (hok rs hrs) hi
          rw [e0] at z
          exact (Option.some.inj z).symm
        rw [ht, ← e]
        exact hcov _ (List.mem_map.mpr ⟨rs, hrs, rfl⟩) _ (by rw [ec]; exact hs0)
    refine u_drop ?_
    refine ⟨_, rfl, .inl ⟨rfl, _, lst_at hl'⟩, ?_⟩
    refine u_cons (u_call (u_cons (tLc_of ?_)))
    refine ⟨_, rfl, r, rfl, ⟨_, lst_at (sm _ _ hrr)⟩, ?_⟩
    have prs' := paired_mono mono_rooms sm prs
    refine lc_fm (H1 := H') mono_span off_span (fun rs : List Sn => some (colF i rs)) (paired_len prs) (sm _ _ hrr) (len_lt (by rw [paired_len prs]; omega)) (fun j x rs H2 N C0 hx hrs s3 hN hC => ?_) (fun D H2 nD s3 hm2 => ?_)
    · obtain ⟨rs', e1, ra, rvs, rfl, hra, pr⟩ := paired_atV prs' hx
      obtain rfl : rs' = rs := Option.some.inj (e1.symm.trans hrs)
      have htk := hok rs' (List.mem_of_getElem? hrs)
      obtain ⟨v, e2, hv⟩ := paired_at pr (col_at htk hi)
      refine ⟨rfl, _, rfl, _, rfl, ra, rvs, _, v, rfl, rfl, lst_at (s3 _ _ hra), at_of (j := i) (by omega) e2, ?_⟩
      exact hN _ _ _ rfl (Same.refl _) (mono_span _ _ _ _ s3 hv)
    · obtain ⟨acc, h1, h2⟩ := hm2
      rw [List.filterMap_eq_map'] at h2
      refine ⟨_, rss.map (colF i), rfl, ⟨D, acc, rfl, h1, h2⟩, fun s hs => ?_, by rw [List.length_map]; omega, hne, fun s p H3 hcov s4 np hp => ?_⟩
      · obtain ⟨rs, hrs, rfl⟩ := List.mem_map.mp hs
        exact col_full (hok rs hrs) hi
      · obtain ⟨acc3, q1, q2, q3, q4, q5⟩ := fin s p H3 hcov (s3.trans s4) (s3.free np) hp
        exact ⟨l, acc3, _, rfl, rfl, q1, q2, _, _, rfl, q3, q4, q5⟩
  · rintro σ H' ⟨x3, ss, rfl, m, hsl, hin⟩
    refine ⟨_, rfl, ?_⟩
    exact q ss l H' hsl hin (s1.trans m.1) nlH (made_end mono_span m)
end
end Gz
namespace Gz
open PySem PySem.Spec PyProof.Rows L2
/-! ## data for in and == -/
def dO : Option Int → PyData
  | none => .none
  | some i => .int i
def dSn (s : Sn) : PyData := .tuple [dO s.1, dO s.2]
theorem dp_vO (K : PySem.W.Frag) (H : Hp) : ∀ o, Dp K H (vO o) (dO o)
  | none => .non
  | some i => .int i
theorem dp_span (K : PySem.W.Frag) {H : Hp} {v : V} {s : Sn} (h : SpanAt H v s) : Dp K H v (dSn s) := by
  obtain ⟨a, rfl, h⟩ := h
  exact .tup (tup_at h) (.cons (dp_vO K H _) (.cons (dp_vO K H _) .nil))
theorem dp_all (K : PySem.W.Frag) {α : Type} {R : Hp → V → α → Prop} {D : α → PyData} {H : Hp} (f : ∀ v x, R H v x → Dp K H v (D x)) : ∀ {vs : List V} {xs : List α}, Paired (R H) vs xs → DpAll K H vs (xs.map D)
  | _, _, .nil => .nil
  | _, _, .cons r t => .cons (f _ _ r) (dp_all K f t)
theorem dp_lst (K : PySem.W.Frag) {α : Type} {R : Hp → V → α → Prop} {D : α → PyData} {H : Hp} (f : ∀ v x, R H v x → Dp K H v (D x)) {a : Addr} {vs : List V} {xs : List α} (h : H a = some (.lst vs)) (p : Paired (R H) vs xs) : Dp K H (.ref a) (.list (xs.map D)) := .lst (lst_at h) (dp_all K f p)
theorem lay_dO : ∀ o, (dO o).canLay0 = true
  | none => by simp [dO, PyData.canLay0]
  | some i => by simp [dO, PyData.canLay0]
theorem lay_sn (s : Sn) : (dSn s).canLay0 = true := by simp [dSn, PyData.canLay0, PyData.canLayAll0, lay_dO]
theorem dep_dO : ∀ o, (dO o).depth = 0
  | none => by simp [dO, PyData.depth]
  | some i => by simp [dO, PyData.depth]
theorem dep_sn (s : Sn) : (dSn s).depth = 1 := by simp [dSn, PyData.depth, PyData.depthAll, dep_dO]
theorem shaped_lst {α : Type} (D : α → PyData) (k : Nat) (hk : k ≤ 60) (h1 : ∀ x, (D x).canLay0 = true) (h2 : ∀ x, (D x).depth ≤ k) : ∀ xs : List α, SeqAt.shaped (.list (xs.map D)) = true := by
  have a : ∀ xs : List α, PyData.canLayAll0 (xs.map D) = true := fun xs => by
    induction xs with
    | nil => simp [PyData.canLayAll0]
    | cons x r ih => simp [PyData.canLayAll0, h1, ih]
  have b : ∀ xs : List α, PyData.depthAll (xs.map D) ≤ k := fun xs => by
    induction xs with
    | nil => simp [PyData.depthAll]
    | cons x r ih =>
      have := h2 x
      simp only [List.map_cons, PyData.depthAll]
      omega
  intro xs
  have hb := b xs
  unfold SeqAt.shaped
  rw [show (PyData.list (xs.map D)).canLay0 = true by simp [PyData.canLay0, a]]
  rw [show (PyData.list (xs.map D)).depth = PyData.depthAll (xs.map D) + 1 by simp [PyData.depth]]
  rw [Bool.true_and]
  exact decide_eq_true (by omega)
theorem shaped_none : SeqAt.shaped .none = true := by
  unfold SeqAt.shaped
  rw [show PyData.none.canLay0 = true by simp [PyData.canLay0], show PyData.none.depth = 0 by simp [PyData.depth]]
  rfl
theorem none_in {α : Type} (D : α → PyData) (h : ∀ x, ∃ ds, D x = .tuple ds) (xs : List α) : ((xs.map D).any fun z => PyData.eqv z .none) = false := by
  rw [List.any_eq_false]
  intro z hz
  obtain ⟨x, _, rfl⟩ := List.mem_map.mp hz
  obtain ⟨ds, e⟩ := h x
  rw [e]
  simp [PyData.eqv]
theorem units65 {k : Nat} {A : Around} (hr : Room k A) : A.units + 65 < cLine := by
  have := hr.un
  omega
end Gz
namespace Gz
open PySem PySem.Spec PyProof.Rows L2
theorem fm_filter {α : Type} (q : α → Bool) : ∀ l : List α, l.filterMap (fun x => if q x = true then some x else none) = l.filter q
  | [] => rfl
  | x :: r => by
    rw [List.filterMap_cons, List.filter_cons]
    by_cases h : q x = true
    · rw [if_pos h, if_pos h, fm_filter q r]
    · rw [if_neg h, if_neg h, fm_filter q r]
def keepB (as : List Int) (p : EM) : Bool := match p.1 with
  | none => true
  | some i => !as.contains i
theorem leftM_eq (ms : List EM) (as : List Int) : leftM ms as = ms.filter (keepB as) := rfl
section
variable {P : Program} {w : World} {K : PySem.W.Frag} {mg : Str → Option Value} {base : Heap} {C : Addr}
def spSearch (n : Nat) : Sp := fun vs H Q _ => ∃ (sv mv av : V) (most : Nat) (st : Sts) (ms : List EM) (as : List Int), vs = [.int (most : Int), sv, mv, av] ∧ LstAt StepAt H sv st ∧ LstAt EmAt H mv ms ∧ LstAt IntAt H av as ∧ StOk st ∧ (∀ p ∈ ms, p.2.1 ≤ st.length) ∧ st.length ≤ 100 ∧ ms.length ≤ 1000 ∧ most ≤ 60 ∧
  as.length ≤ most + 1 ∧ most + 2 ≤ as.length + n ∧
  (∀ c p q H', GoodC st most ms c → Same H H' → H p = none → H' p = some (.tup [.str "may", .ref q]) → H' q = some (.lst (c.map V.int)) → Q (.ref p) H') ∧
  (∀ p x H', ¬ Wit st most ms as → Same H H' → H p = none → H' p = some (.tup [.str "never", x]) → Q (.ref p) H')
theorem str_never : decide (V.str "never" = V.str "may") = false := by decide +kernel
theorem df_search0 (T : Tx K mg "search_on" sSearchOn) : Df P w K mg base 5 "search_on" ["most", "steps", "marks", "aside"] (spSearch 0) := by
  refine df_mk T (fun _ _ _ _ _ _ us hl => match us, hl with | [_, _, _, _], _ => rfl) fun f fd F _ => ?_
  have no : ∀ vs H Q E, ¬ spSearch 0 vs H Q E := fun vs H Q E h => by
    obtain ⟨_, _, _, most, st, ms, as, _, _, _, _, _, _, _, _, _, h1, h2, _⟩ := h
    omega
  exact ⟨fun vs H Q E h => absurd h (no vs H Q E), fun A outer s H args us vs Q E _ _ _ _ h => absurd h (no vs H Q E)⟩
theorem df_search1 (T : Tx K mg "search_on" sSearchOn) (B : Bi mg) (CL : Df P w K mg base 3 "clashing" ["steps", "marks"] spClashing) (CI : Df P w K mg base 5 "course_in" ["steps", "marks"] spCourseIn) {n : Nat}
    (R : Df P w K mg base (5 + n) "search_on" ["most", "steps", "marks", "aside"] (spSearch n)) : Df P w K mg base (5 + n + 1) "search_on" ["most", "steps", "marks", "aside"] (spSearch (n + 1)) := by
  refine df_mk T (fun _ _ _ _ _ _ us hl => match us, hl with | [_, _, _, _], _ => rfl) fun f fd F _ => ?_
  refine F.ok scSearchOn (fun vs H Q E h => ?_) (fun cdv A outer s H vs Q E hr h => ?_)
  · obtain ⟨sv, mv, av, most, st, ms, as, rfl, _⟩ := h
    rfl
  obtain ⟨sv, mv, av, most, st, ms, as, rfl, hst, ⟨ma, mvs, rfl, hm, pm⟩, ⟨aa, avs, rfl, haa, paa⟩, ok, hbd, hl1, hl2, hm60, ha1, ha2, q1, q2⟩ := h
  have ea := paired_ints paa
  subst ea
  have hml := paired_len pm
  have hr3 : Room 3 _ := hr.mono (by omega : 3 ≤ 5 + n)
  have hr5 : Room 5 _ := hr.mono (by omega : 5 ≤ 5 + n)
  refine ⟨_, pss_cons (ps_if (pt_cmpR op_gt (pe_callB call_len_seq (by rfl) B.len PySem.boot_len (pa_cons (pv 3) pa_nil)) (pv 0) (nomark _)) (pss_one (ps_ret (pe_tup (pa_cons pe_str (pa_cons (pe_tup (pa_cons pe_str pa_nil)) pa_nil))))) pss_nil)
    (pss_cons (ps_setLc (i := 4) (own := [("eye", 14), ("mark", 15)]) (g := gTup K 2 (gCons (gName 14) (gCons (gName 15) gNil))) (by rfl) scSearchOn.nd rfl rfl (sw_true rfl rfl rfl (by decide +kernel)) (pi_list (pv 2))
        (blkOk_by (own := [("eye", 14), ("mark", 15)]) (N := ["most", "steps", "marks", "aside", "left", "plain", "pair", "one", "early", "other", "late", "first", "word", "second", "eye", "mark"]) (sc := defScope sSearchOn) (by decide +kernel))
        (fun _ _ _ _ _ => tupK K rfl (pgs_cons (pg_name (i := 14) scSearchOn.nd rfl (Or.inl rfl)) (pgs_cons (pg_name (i := 15) scSearchOn.nd rfl (Or.inl rfl)) pgs_nil)))
        (fun _ _ _ _ _ => pts_one (PW.pt (pw_or (pt_cmpR op_isN (pv 14) pe_non (nomark _)) (pw_or1 (pt_cmpR (nin K) (pv 14) (pv 3) (by rfl))))))
        (fun _ _ _ _ _ => pe_tup (pa_cons (pv 14) (pa_cons (pv 15) pa_nil))))
    (pss_cons (ps_setLc (i := 5) (own := [("eye", 14), ("mark", 15)]) (g := gTup K 2 (gCons (gName 14) (gCons (gName 15) gNil))) (by rfl) scSearchOn.nd rfl rfl (sw_true rfl rfl rfl (by decide +kernel)) (pi_list (pv 4))
        (blkOk_by (own := [("eye", 14), ("mark", 15)]) (N := ["most", "steps", "marks", "aside", "left", "plain", "pair", "one", "early", "other", "late", "first", "word", "second", "eye", "mark"]) (sc := defScope sSearchOn) (by decide +kernel))
        (fun _ _ _ _ _ => tupK K rfl (pgs_cons (pg_name (i := 14) scSearchOn.nd rfl (Or.inl rfl)) (pgs_cons (pg_name (i := 15) scSearchOn.nd rfl (Or.inl rfl)) pgs_nil)))
        (fun _ _ _ _ _ => pts_nil) (fun _ _ _ _ _ => pv 15))
    (pss_cons (ps_set (i := 6) scSearchOn.nd rfl (Or.inl rfl) (callD CL hr3 (pa_cons (pv 1) (pa_cons (pv 5) pa_nil))))
    (pss_cons (ps_if (pt_cmpR op_isN (pv 6) pe_non (nomark _)) (pss_one (ps_ret (pe_tup (pa_cons pe_str (pa_cons (callD CI hr5 (pa_cons (pv 1) (pa_cons (pv 5) pa_nil))) pa_nil))))) pss_nil)
    (pss_cons (ps_asg (pe_ix ix_list (pv 4) (pe_ix ix_tup (pv 6) pe_int (fun _ _ => rfl)) (fun _ _ => rfl)) (pg_tup rfl (pgs_cons (pg_name (i := 7) scSearchOn.nd rfl (Or.inl rfl)) (pgs_cons (pg_name (i := 8) scSearchOn.nd rfl (Or.inl rfl)) pgs_nil))))
    (pss_cons (ps_asg (pe_ix ix_list (pv 4) (pe_ix ix_tup (pv 6) pe_int (fun _ _ => rfl)) (fun _ _ => rfl)) (pg_tup rfl (pgs_cons (pg_name (i := 9) scSearchOn.nd rfl (Or.inl rfl)) (pgs_cons (pg_name (i := 10) scSearchOn.nd rfl (Or.inl rfl)) pgs_nil))))
    (pss_cons (ps_set (i := 11) scSearchOn.nd rfl (Or.inl rfl) pe_non)
    (Evl.pss_cut (ps_if (pt_cmpR op_notN (pv 7) pe_non (nomark _))
      (pss_cons (ps_asg (callD R hr (pa_cons (pv 0) (pa_cons (pv 1) (pa_cons (pv 2) (pa_cons (pe_op op_cat (pv 3) (pe_lst (pa_cons (pv 7) pa_nil))) pa_nil))))) (pg_tup rfl (pgs_cons (pg_name (i := 12) scSearchOn.nd rfl (Or.inl rfl)) (pgs_cons (pg_name (i := 11) scSearchOn.nd rfl (Or.inl rfl)) pgs_nil))))
      (pss_one (ps_if (pt_cmpR op_eq (pv 12) pe_str (nomark _)) (pss_one (ps_ret (pe_tup (pa_cons (pv 12) (pa_cons (pv 11) pa_nil))))) pss_nil))) pss_nil)
    (pss_cons (ps_set (i := 13) scSearchOn.nd rfl (Or.inl rfl) pe_non)
    (Evl.pss_cut (ps_if (PW.pt (pw_and (pt_cmpR op_notN (pv 9) pe_non (nomark _)) (pw_and1 (pt_cmpR op_ne (pv 9) (pv 7) (nomark _)))))
      (pss_cons (ps_asg (callD R hr (pa_cons (pv 0) (pa_cons (pv 1) (pa_cons (pv 2) (pa_cons (pe_op op_cat (pv 3) (pe_lst (pa_cons (pv 9) pa_nil))) pa_nil))))) (pg_tup rfl (pgs_cons (pg_name (i := 12) scSearchOn.nd rfl (Or.inl rfl)) (pgs_cons (pg_name (i := 13) scSearchOn.nd rfl (Or.inl rfl)) pgs_nil))))
      (pss_one (ps_if (pt_cmpR op_eq (pv 12) pe_str (nomark _)) (pss_one (ps_ret (pe_tup (pa_cons (pv 12) (pa_cons (pv 13) pa_nil))))) pss_nil))) pss_nil)
    (pss_one (ps_ret (pe_tup (pa_cons pe_str (pa_cons (pe_tup (pa_cons pe_str (pa_cons (pe_tup (pa_cons (pv 7) (pa_cons (pe_ix ix_tup (pv 8) pe_int (fun _ _ => rfl)) pa_nil)))
      (pa_cons (pe_tup (pa_cons (pv 9) (pa_cons (pe_ix ix_tup (pv 10) pe_int (fun _ _ => rfl)) pa_nil))) (pa_cons (pv 11) (pa_cons (pv 13) pa_nil)))))) pa_nil))))))))))))))), ?_⟩
  refine u_if1 ?_
  refine ⟨_, rfl, aa, _, rfl, .inl (lst_at haa), _, rfl, _, _, rfl, rfl, _, rfl, ?_⟩
  refine ite2 (fun c => ?_) (fun c => ?_)
  · have c := of_decide_eq_true c
    rw [List.length_map] at c
    refine ⟨(by show 1 ≤ sizeLine; decide), fun o no => ⟨(by show 2 ≤ sizeLine; decide), fun p np => ?_⟩⟩
    have t1 := same_new no (.tup [V.str "full"])
    exact q2 p _ _ (fun z => by have := z.few; omega) (t1.trans (same_new np _)) (t1.free np) upd_same
  have hfew : as.length ≤ most := by
    have c : ¬ ((most : Int) < (((as.map V.int).length : Nat) : Int)) := fun z => c (decide_eq_true z)
    rw [List.length_map] at c
    omega
  -- left
  refine u_set (tLc_of ?_)
  refine ⟨_, rfl, ma, rfl, ⟨_, lst_at hm⟩, ?_⟩
  refine lc_fm (H1 := H) mono_em off_em (fun p : EM => if keepB as p = true then some p else none) hml hm (len_lt (by omega)) (fun i x p H' N C0 hx hp s1 hN hC => ?_) (fun D H1 nD s1 hm2 => ?_)
  · obtain ⟨p', e1, a, b, d, rfl, h1, h2, h3⟩ := paired_atV pm hx
    obtain rfl : p' = p := Option.some.inj (e1.symm.trans hp)
    obtain ⟨eye, mk⟩ := p'
    refine ⟨a, _, rfl, tup_at (s1 _ _ h1), rfl, _, _, rfl, _, _, rfl, rfl, rfl, ?_⟩
    have make : (if keepB as (eye, mk) = true then some ((eye, mk) : EM) else none) = some (eye, mk) → tTup (tCons (tVar 14) (tCons (tVar 15) tNil)) (((wipe ((start ["most", "steps", "marks", "aside", "left", "plain", "pair", "one", "early", "other", "late", "first", "word", "second", "eye", "mark"] [.int (most : Int), sv, .ref ma, .ref aa])) [14, 15]).set 14 (some (vO eye))).set 15 (some (.ref b))) H' N := by
      intro e
      refine ⟨_, rfl, _, rfl, (by show 2 ≤ sizeLine; decide), fun o no => ?_⟩
      exact hN _ _ _ e (same_new no _) ⟨o, b, d, rfl, upd_same, same_new no _ _ _ (s1 _ _ h2), same_new no _ _ _ (s1 _ _ h3)⟩
    cases eye with
    | none =>
      refine ⟨_, rfl, rfl, _, rfl, iteT (iteT ?_)⟩
      exact make rfl
    | some i =>
      refine ⟨_, rfl, rfl, _, rfl, iteF ?_⟩
      refine ⟨_, rfl, _, rfl, aa, _, rfl, .inl (lst_at (s1 _ _ haa)), rfl, all_flat as, _, rfl, ?_⟩
      show if (if true = true then !inV (V.int i) (as.map V.int) else inV (V.int i) (as.map V.int)) = true then _ else _
      rw [if_pos rfl, inV_int]
      cases ec : as.contains i with
      | true =>
        refine iteF (hC _ ?_ (Same.refl _))
        show (if (!as.contains i) = true then some ((some i, mk) : EM) else none) = none
        rw [ec]
        rfl
      | false =>
        refine iteT ?_
        refine make ?_
        show (if (!as.contains i) = true then some ((some i, mk) : EM) else none) = some (some i, mk)
        rw [ec]
        rfl
  obtain ⟨lacc, hD, pl⟩ := hm2
  rw [fm_filter, ← leftM_eq] at pl
  have hll : (leftM ms as).length ≤ ms.length := List.length_filter_le _ _
  have hlal := paired_len pl
  -- plain
  refine u_set (tLc_of ?_)
  refine ⟨_, rfl, D, rfl, ⟨_, lst_at hD⟩, ?_⟩
  refine lc_fm (H1 := H1) mono_mark off_mark (fun p : EM => some p.2) hlal hD (len_lt (by omega)) (fun i x p H' N C0 hx hp s2 hN hC => ?_) (fun D2 H2 nD2 s2 hm2 => ?_)
  · obtain ⟨p', e1, a, b, d, rfl, h1, h2, h3⟩ := paired_atV pl hx
    obtain rfl : p' = p := Option.some.inj (e1.symm.trans hp)
    refine ⟨a, _, rfl, tup_at (s2 _ _ h1), rfl, _, _, rfl, _, _, rfl, rfl, rfl, _, rfl, ?_⟩
    exact hN _ _ _ rfl (Same.refl _) ⟨b, d, rfl, s2 _ _ h2, s2 _ _ h3⟩
  obtain ⟨pacc, hD2, pp⟩ := hm2
  rw [List.filterMap_eq_map'] at pp
  have s12 := s1.trans s2
  have hbl : ∀ m ∈ (leftM ms as).map (·.2), m.1 ≤ st.length := fun m hm0 => by
    obtain ⟨p, hp, rfl⟩ := List.mem_map.mp hm0
    exact hbd p (mem_left.mp hp).1
  have hst2 := mono_lst mono_step _ _ _ _ s12 hst
  refine u_set ?_
  refine ⟨_, rfl, _, rfl, sv, _, st, (leftM ms as).map (·.2), rfl, hst2, ⟨D2, pacc, rfl, hD2, pp⟩, hbl, hl1, by rw [List.length_map]; omega, fun nc H3 s3 => ?_, fun i j m m' pr H3 hi hj hc s3 npr hpr => ?_⟩
  · refine u_if1 ?_
    refine ⟨_, rfl, rfl, _, rfl, iteT ?_⟩
    refine ⟨_, rfl, _, rfl, sv, _, st, (leftM ms as).map (·.2), rfl, mono_lst mono_step _ _ _ _ s3 hst2, ⟨D2, pacc, rfl, s3 _ _ hD2, paired_mono mono_mark s3 pp⟩, hbl, hl1, by rw [List.length_map]; omega, ok, nc, fun c cp H4 hcs hch s4 ncp hcp => ?_⟩
    refine ⟨(by show 2 ≤ sizeLine; decide), fun p np => ?_⟩
    have s04 := (s12.trans s3).trans s4
    have t := same_new np (.tup [V.str "may", V.ref cp])
    refine q1 c p cp _ ⟨hcs, as, hfew, fun e he hn => ?_⟩ (s04.trans t) (s04.free np) upd_same (t _ _ hcp)
    exact hch _ (List.mem_map.mpr ⟨e, mem_left.mpr ⟨he, hn⟩, rfl⟩)
  · refine u_if1 ?_
    refine ⟨_, rfl, rfl, _, rfl, iteF ?_⟩
    rw [List.getElem?_map] at hi hj
    obtain ⟨pi, ei, emi⟩ : ∃ p, (leftM ms as)[i]? = some p ∧ p.2 = m := by
      cases e : (leftM ms as)[i]? with
      | none => rw [e] at hi; cases hi
      | some p => rw [e] at hi; exact ⟨p, rfl, Option.some.inj hi⟩
    obtain ⟨pj, ej, emj⟩ : ∃ p, (leftM ms as)[j]? = some p ∧ p.2 = m' := by
      cases e : (leftM ms as)[j]? with
      | none => rw [e] at hj; cases hj
      | some p => rw [e] at hj; exact ⟨p, rfl, Option.some.inj hj⟩
    rw [← emi, ← emj] at hc
    have s23 := s2.trans s3
    have s13 := s12.trans s3
    obtain ⟨v1, ev1, a1, b1, d1, rfl, h11, h12, h13⟩ := paired_at pl ei
    obtain ⟨v2, ev2, a2, b2, d2, rfl, h21, h22, h23⟩ := paired_at pl ej
    refine ⟨_, rfl, _, rfl, pr, _, _, _, rfl, rfl, tup_at hpr, rfl, D, lacc, _, _, rfl, rfl, lst_at (s23 _ _ hD), at_of (j := i) rfl ev1, ?_⟩
    refine ⟨a1, _, rfl, tup_at (s23 _ _ h11), rfl, _, _, rfl, _, _, rfl, rfl, ?_⟩
    refine ⟨_, rfl, _, rfl, pr, _, _, _, rfl, rfl, tup_at hpr, rfl, D, lacc, _, _, rfl, rfl, lst_at (s23 _ _ hD), at_of (j := j) rfl ev2, ?_⟩
    refine ⟨a2, _, rfl, tup_at (s23 _ _ h21), rfl, _, _, rfl, _, _, rfl, rfl, ?_⟩
    have wgo : Wit st most ms as → (∃ i, pi.1 = some i ∧ Wit st most ms (as ++ [i])) ∨ ∃ i, pj.1 = some i ∧ Wit st most ms (as ++ [i]) := fun wt => wt.go hbd (List.mem_of_getElem? ei) (List.mem_of_getElem? ej) hc
    have hb1 : H3 b1 = some (.tup [.int (pi.2.1 : Int), .ref d1]) := s23 _ _ h12
    have hb2 : H3 b2 = some (.tup [.int (pj.2.1 : Int), .ref d2]) := s23 _ _ h22
    obtain ⟨eye1, mk1⟩ := pi
    obtain ⟨eye2, mk2⟩ := pj
    dsimp only at wgo hb1 hb2
    have hst3 := mono_lst mono_step _ _ _ _ s13 hst
    have hms3 : LstAt EmAt H3 (.ref ma) ms := ⟨ma, mvs, rfl, s13 _ _ hm, paired_mono mono_em s13 pm⟩
    refine ⟨fun σ H' => ∃ f1 wd, σ = [some (.int (most : Int)), some sv, some (.ref ma), some (.ref aa), some (.ref D), some (.ref D2), some (.ref pr), some (vO eye1), some (.ref b1), some (vO eye2), some (.ref b2), some f1, wd, none, none, none] ∧ Same H3 H' ∧ ∀ i, eye1 = some i → ¬ Wit st most ms (as ++ [i]), ?_, ?_⟩
    · refine ⟨_, rfl, rfl, _, rfl, ?_⟩
      cases eye1 with
      | none =>
        refine iteF ?_
        exact ⟨_, _, rfl, Same.refl _, fun i e => by cases e⟩
      | some i1 =>
        refine iteT ?_
        refine ⟨_, rfl, _, rfl, _, rfl, _, rfl, _, rfl, (by show 1 ≤ sizeLine; decide), fun o no => ?_⟩
        have t1 := same_new no (.lst [V.int i1])
        refine ⟨aa, o, _, _, rfl, rfl, t1 _ _ (s13 _ _ haa), upd_same, by rw [List.length_map]; exact len_le (by show as.length + 1 ≤ 4000; omega), fun r nr => ?_⟩
        have t2 := same_new nr (.lst (as.map V.int ++ [V.int i1]))
        have t12 := t1.trans t2
        refine ⟨sv, _, _, most, st, ms, as ++ [i1], rfl, mono_lst mono_step _ _ _ _ t12 hst3, mono_lst mono_em _ _ _ _ t12 hms3, ⟨r, _, rfl, upd_same, paired_snoc (paired_ofInts as) rfl⟩, ok, hbd, hl1, hl2, hm60, by rw [List.length_append, List.length_singleton]; omega, by rw [List.length_append, List.length_singleton]; omega, fun c p qq H4 g s4 np hp hq => ?_, fun p x H4 nw s4 np hp => ?_⟩
        · refine ⟨p, _, rfl, tup_at hp, rfl, _, _, rfl, _, _, rfl, rfl, ?_⟩
          refine ⟨_, rfl, rfl, _, rfl, ?_⟩
          rw [show decide (V.str "may" = V.str "may") = true from decide_eq_true rfl]
          refine iteT ⟨_, rfl, _, rfl, (by show 2 ≤ sizeLine; decide), fun p2 np2 => ?_⟩
          have s34 := (s13.trans t12).trans s4
          have t3 := same_new np2 (.tup [V.str "may", V.ref qq])
          exact q1 c p2 qq _ g (s34.trans t3) (s34.free np2) upd_same (t3 _ _ hq)
        · refine ⟨p, _, rfl, tup_at hp, rfl, _, _, rfl, _, _, rfl, rfl, ?_⟩
          refine ⟨_, rfl, rfl, _, rfl, ?_⟩
          rw [str_never]
          refine iteF ?_
          exact ⟨_, _, rfl, t12.trans s4, fun i e => by
            cases e
            exact nw⟩
    rintro σ H4 ⟨f1, wd, rfl, s4, nw1⟩
    have s14 := s13.trans s4
    have hst4 := mono_lst mono_step _ _ _ _ s4 hst3
    have hms4 := mono_lst mono_em _ _ _ _ s4 hms3
    refine ⟨fun σ H' => ∃ f2 wd, σ = [some (.int (most : Int)), some sv, some (.ref ma), some (.ref aa), some (.ref D), some (.ref D2), some (.ref pr), some (vO eye1), some (.ref b1), some (vO eye2), some (.ref b2), some f1, wd, some f2, none, none] ∧ Same H4 H' ∧ ∀ i, eye2 = some i → ¬ Wit st most ms (as ++ [i]), ?_, ?_⟩
    · refine ⟨_, rfl, rfl, _, rfl, ?_⟩
      cases eye2 with
      | none =>
        refine iteF (iteF ?_)
        exact ⟨_, _, rfl, Same.refl _, fun i e => by cases e⟩
      | some i2 =>
        refine iteT ⟨_, rfl, _, rfl, ?_, _, rfl, ?_⟩
        · cases eye1 <;> rfl
        by_cases e12 : eye1 = some i2
        · rw [show (!decide (vO (some i2) = vO eye1)) = false by rw [e12]; simp]
          refine iteF ?_
          exact ⟨_, _, rfl, Same.refl _, fun i e => by
            cases e
            exact nw1 i2 e12⟩
        · rw [show (!decide (vO (some i2) = vO eye1)) = true by
            rw [decide_eq_false fun z => e12 (vO_inj z).symm]
            rfl]
          refine iteT ?_
          refine ⟨_, rfl, _, rfl, _, rfl, _, rfl, _, rfl, (by show 1 ≤ sizeLine; decide), fun o no => ?_⟩
          have t1 := same_new no (.lst [V.int i2])
          refine ⟨aa, o, _, _, rfl, rfl, t1 _ _ (s14 _ _ haa), upd_same, by rw [List.length_map]; exact len_le (by show as.length + 1 ≤ 4000; omega), fun r nr => ?_⟩
          have t2 := same_new nr (.lst (as.map V.int ++ [V.int i2]))
          have t12 := t1.trans t2
          refine ⟨sv, _, _, most, st, ms, as ++ [i2], rfl, mono_lst mono_step _ _ _ _ t12 hst4, mono_lst mono_em _ _ _ _ t12 hms4, ⟨r, _, rfl, upd_same, paired_snoc (paired_ofInts as) rfl⟩, ok, hbd, hl1, hl2, hm60, by rw [List.length_append, List.length_singleton]; omega, by rw [List.length_append, List.length_singleton]; omega, fun c p qq H5 g s5 np hp hq => ?_, fun p x H5 nw s5 np hp => ?_⟩
          · refine ⟨p, _, rfl, tup_at hp, rfl, _, _, rfl, _, _, rfl, rfl, ?_⟩
            refine ⟨_, rfl, rfl, _, rfl, ?_⟩
            rw [show decide (V.str "may" = V.str "may") = true from decide_eq_true rfl]
            refine iteT ⟨_, rfl, _, rfl, (by show 2 ≤ sizeLine; decide), fun p2 np2 => ?_⟩
            have s34 := (s14.trans t12).trans s5
            have t3 := same_new np2 (.tup [V.str "may", V.ref qq])
            exact q1 c p2 qq _ g (s34.trans t3) (s34.free np2) upd_same (t3 _ _ hq)
          · refine ⟨p, _, rfl, tup_at hp, rfl, _, _, rfl, _, _, rfl, rfl, ?_⟩
            refine ⟨_, rfl, rfl, _, rfl, ?_⟩
            rw [str_never]
            refine iteF ?_
            exact ⟨_, _, rfl, t12.trans s5, fun i e => by
              cases e
              exact nw⟩
    rintro σ H5 ⟨f2, wd2, rfl, s5, nw2⟩
    have s35 := s4.trans s5
    have s05 := s14.trans s5
    refine ⟨_, rfl, _, rfl, b1, _, _, _, rfl, rfl, tup_at (s35 _ _ hb1), rfl, (by show 2 ≤ sizeLine; decide), fun o1 no1 => ?_⟩
    have t1 := same_new no1 (.tup [vO eye1, V.int (mk1.1 : Int)])
    refine ⟨_, rfl, _, rfl, b2, _, _, _, rfl, rfl, tup_at (t1 _ _ (s35 _ _ hb2)), rfl, (by show 2 ≤ sizeLine; decide), fun o2 no2 => ?_⟩
    have t2 := same_new no2 (.tup [vO eye2, V.int (mk2.1 : Int)])
    refine ⟨_, rfl, _, rfl, (by show 5 ≤ sizeLine; decide), fun o3 no3 => ?_⟩
    have t3 := same_new no3 (.tup [V.str "clash", V.ref o1, V.ref o2, f1, f2])
    refine ⟨(by show 2 ≤ sizeLine; decide), fun p np => ?_⟩
    have t4 := same_new np (.tup [V.str "never", V.ref o3])
    have s06 := ((s05.trans t1).trans t2).trans t3
    refine q2 p _ _ (fun wt => ?_) (s06.trans t4) (s06.free np) upd_same
    rcases wgo wt with ⟨i, e, z⟩ | ⟨i, e, z⟩
    · exact nw1 i e z
    · exact nw2 i e z
theorem df_search (T : Tx K mg "search_on" sSearchOn) (B : Bi mg) (CL : Df P w K mg base 3 "clashing" ["steps", "marks"] spClashing) (CI : Df P w K mg base 5 "course_in" ["steps", "marks"] spCourseIn) :
    ∀ n : Nat, Df P w K mg base (5 + n) "search_on" ["most", "steps", "marks", "aside"] (spSearch n)
  | 0 => df_search0 T
  | n + 1 => df_search1 T B CL CI (df_search T B CL CI n)
end
end Gz
namespace Gz
open PySem PySem.Spec PyProof.Rows L2
section
variable {P : Program} {w : World} {K : PySem.W.Frag} {mg : Str → Option Value} {base : Heap} {C : Addr}
def dSt (p : Int × Int) : PyData := .tuple [.int p.1, .int p.2]
theorem dp_step (K : PySem.W.Frag) {H : Hp} {v : V} {s : Int × Int} (h : StepAt H v s) : Dp K H v (dSt s) := by
  obtain ⟨a, rfl, h⟩ := h
  exact .tup (tup_at h) (.cons (.int _) (.cons (.int _) .nil))
theorem lay_st (s : Int × Int) : (dSt s).canLay0 = true := by simp [dSt, PyData.canLay0, PyData.canLayAll0]
theorem dep_st (s : Int × Int) : (dSt s).depth = 1 := by simp [dSt, PyData.depth, PyData.depthAll]
/-- a course that a board tells: as the claim wants, with few liars -/
def Told (b : Bd) (ws : List Wd) (cl : List Pt) (c : List Int) : Prop := Goes b cl c ∧ ∃ G : List Int, G.length ≤ b.most ∧ ∀ x ∈ ws, (x.1.1 : Int) ∉ G → In x.2 (cAt c x.1.2)
def spAsk (C : Addr) : Sp := fun vs H Q _ => ∃ (bv cv : V) (b : Bd) (ws : List Wd) (cl : List Pt) (c F : List Int), vs = [bv, cv] ∧ BoardAt C b H bv ws ∧ LstAt PartAt H cv cl ∧ (∀ p ∈ cl, PtOk b.turns p) ∧ Fitting b ws c F ∧ Goes b cl c ∧
  ∀ c' p q H', Told b ws cl c' → Same H H' → H p = none → H' p = some (.tup [.str "may", .ref q]) → H' q = some (.lst (c'.map V.int)) → Q (.ref p) H'
theorem df_ask (T : Tx K mg "ask" sAsk) (B : Bi mg) (BC : BT K mg C) (PA : Df P w K mg base 3 "paces" ["board", "claim"] (spPaces C)) (WA : Df P w K mg base 3 "wanted" ["board", "claim"] (spWanted C))
    (MO : Df P w K mg base 2 "marks_of" ["board", "goals"] (spMarksOf C)) (SO : Df P w K mg base 14 "search_on" ["most", "steps", "marks", "aside"] (spSearch 9)) : Df P w K mg base 15 "ask" ["board", "claim"] (spAsk C) := by
  refine df_mk T (fun _ _ _ _ _ _ us hl => match us, hl with | [_, _], _ => rfl) fun f fd F0 _ => ?_
  refine F0.ok scAsk (fun vs H Q E h => ?_) (fun cdv A outer s H vs Q E hr h => ?_)
  · obtain ⟨bv, cv, b, ws, cl, c, F, rfl, _⟩ := h
    rfl
  obtain ⟨bv, cv, b, ws, cl, c, F, rfl, hb, hc, hok, hf, go, q⟩ := h
  obtain ⟨⟨o1, o2, o3, o4, o5, o6, o7⟩, hlen, htn, go0, hF, hFl, hw⟩ := id hf
  obtain ⟨a, dx, fs, d, rfl, ha, fl, tb⟩ := id hb
  have hr3 : Room 3 _ := hr.mono (by decide)
  refine ⟨_, pss_cons (ps_set (i := 2) scAsk.nd rfl (Or.inl rfl) (callD PA hr3 (pa_cons (pv 0) (pa_cons (pv 1) pa_nil))))
    (pss_cons (ps_set (i := 3) scAsk.nd rfl (Or.inl rfl) (callD WA hr3 (pa_cons (pv 0) (pa_cons (pv 1) pa_nil))))
    (pss_cons (ps_if (pt_cmpR (op_inD (units65 hr)) pe_non (pv 2) (by rfl)) (pss_one ps_never) pss_nil)
    (pss_cons (ps_if (pt_cmpR (op_inD (units65 hr)) pe_non (pv 3) (by rfl)) (pss_one ps_never) pss_nil)
    (pss_one (ps_ret (callD SO hr (pa_cons (pe_fld (pv 0) rfl) (pa_cons (pv 2) (pa_cons (callD MO (hr.mono (by decide)) (pa_cons (pv 0) (pa_cons (pv 3) pa_nil))) (pa_cons (pe_lst pa_nil) pa_nil)))))))))), ?_⟩
  refine ⟨_, rfl, _, rfl, _, cv, b, ws, cl, c, rfl, hb, hc, hok, o3, o4, go, fun sp H1 s1 nsp hsp => ?_⟩
  obtain ⟨svs, hsp, psp⟩ := hsp
  refine ⟨_, rfl, _, rfl, _, cv, b, ws, cl, c, rfl, mono_board _ _ _ _ s1 hb, mono_lst mono_part _ _ _ _ s1 hc, hok, o3, o4, go, fun gp H2 s2 ngp hgp => ?_⟩
  obtain ⟨gvs, hgp, pgp⟩ := hgp
  have s12 := s1.trans s2
  refine ⟨_, rfl, .none, (stepsM b cl).map dSt, .non, dp_lst K (fun v x h => dp_step K h) (s2 _ _ hsp) (paired_mono mono_step s2 psp), shaped_none, shaped_lst dSt 1 (by decide) lay_st (fun x => Nat.le_of_eq (dep_st x)) _, _, rfl, ?_⟩
  rw [none_in dSt (fun x => ⟨_, rfl⟩)]
  refine iteF ?_
  refine ⟨_, rfl, .none, (goalsM b cl).map dSn, .non, dp_lst K (fun v x h => dp_span K h) hgp pgp, shaped_none, shaped_lst dSn 1 (by decide) lay_sn (fun x => Nat.le_of_eq (dep_sn x)) _, _, rfl, ?_⟩
  rw [none_in dSn (fun x => ⟨_, rfl⟩)]
  refine iteF ?_
  refine ⟨_, rfl, a, C, dx, fs, _, rfl, s12 _ _ ha, BC.cl, BC.nM, fl.most, _, rfl, _, rfl, _, rfl, _, _, b, ws, goalsM b cl, rfl, mono_board _ _ _ _ s12 hb, by omega, ⟨gp, gvs, rfl, hgp, pgp⟩, by rw [goalsM_len]; omega, fun es ep H3 hes hel s3 nep hep => ?_⟩
  obtain ⟨evs, hep, pep⟩ := hep
  refine ⟨Nat.zero_le _, fun o no => ?_⟩
  have t1 := same_new no (.lst [])
  have s03 := s12.trans s3
  have s4 := s03.trans t1
  have s23 := (s2.trans s3).trans t1
  have hgoal : ∀ t, t < b.turns → (goalsM b cl)[t]? = some (commonM (none, none) cl .at t) := fun t ht => by
    unfold goalsM
    rw [List.getElem?_map, List.getElem?_range ht]
    rfl
  refine ⟨_, _, _, b.most, stepsM b cl, es, [], rfl, ⟨sp, svs, rfl, s23 _ _ hsp, paired_mono mono_step s23 psp⟩, ⟨ep, evs, rfl, t1 _ _ hep, paired_mono mono_em t1 pep⟩, ⟨o, [], rfl, upd_same, .nil⟩, goes_ok go, fun p hp => ?_, by rw [stepsM_len]; omega, by rw [goalsM_len] at hel; omega, by omega, Nat.zero_le _, by show b.most + 2 ≤ 0 + 9; omega, fun c' p qq H5 g s5 np hp hq => ?_, fun p x H5 nw s5 np hp => ?_⟩
  · rw [stepsM_len]
    rcases (hes p).mp hp with ⟨x, hx, rfl⟩ | ⟨t, s, ht, rfl⟩
    · have := htn x hx
      show x.1.2 ≤ _
      omega
    · have := (List.getElem?_eq_some_iff.mp ht).1
      rw [goalsM_len] at this
      show t ≤ _
      omega
  · obtain ⟨hcs, G, hG, hh⟩ := g
    refine q c' p qq H5 ⟨steps_goes o3 hcs hok fun t ht => ?_, G, hG, fun x hx hn => ?_⟩ (s4.trans s5) (s4.free np) hp hq
    · exact hh (none, (t, commonM (none, none) cl .at t)) ((hes _).mpr (.inr ⟨t, _, hgoal t ht, rfl⟩)) (fun i e => by cases e)
    · exact hh (some (x.1.1 : Int), (x.1.2, x.2)) ((hes _).mpr (.inl ⟨x, hx, rfl⟩)) (fun i e => by
        cases e
        exact hn)
  · refine absurd ⟨c, F, goes_steps go o3, by omega, List.nodup_nil, (fun a h => by cases h), fun p hp hn => ?_⟩ nw
    rcases (hes p).mp hp with ⟨x, hx, rfl⟩ | ⟨t, s, ht, rfl⟩
    · exact hw x hx (hn _ rfl)
    · have h1 := (List.getElem?_eq_some_iff.mp ht).1
      rw [goalsM_len] at h1
      rw [hgoal t h1] at ht
      cases ht
      exact goes_goal go t
end
end Gz
namespace Gz
open PySem PySem.Spec PyProof.Rows L2
/-! ## the law's own helpers: drawing numbers -/
open Builtin.Int (intBits) in
def Scr (K : PySem.W.Frag) (H : Hp) (v : V) : Prop := ∃ (a : Addr) (ns : List Int), v = .ref a ∧ SqL K H a (ns.map V.int) ∧ ns.length ≤ 63 ∧ ∀ z ∈ ns, intBits z ≤ 1048576
theorem sql_mono {K : PySem.W.Frag} {H H' : Hp} {a : Addr} {xs : List V} (s : Same H H') (h : SqL K H a xs) : SqL K H' a xs := by
  rcases h with (h | ⟨o, h⟩) | h
  · exact .inl (.inl (s _ _ h))
  · exact .inl (.inr ⟨o, s _ _ h⟩)
  · exact .inr h
theorem scr_mono {K : PySem.W.Frag} {H H' : Hp} {v : V} (s : Same H H') (h : Scr K H v) : Scr K H' v := by
  obtain ⟨a, ns, e, h1, h2⟩ := h
  exact ⟨a, ns, e, sql_mono s h1, h2⟩
section
open Builtin.Int (intBits)
theorem bits_small {k : Int} (h : k.natAbs < 2 ^ 40) : intBits k ≤ 40 := intBits_le_iff.mpr h
theorem emod_range {i j : Int} (h : 0 < j) : 0 ≤ i % j ∧ i % j < j := ⟨Int.emod_nonneg _ (by omega), Int.emod_lt_of_pos _ h⟩
theorem bits_nat {k : Nat} (h : k ≤ 100000) : intBits (k : Int) ≤ 40 := bits_small (by
  have : (2:Nat) ^ 40 = 1099511627776 := by decide
  omega)
theorem ok_kk {k : Nat} (h : k ≤ 100000) : IntMulOk (k : Int) (k : Int) := .of_left (Nat.le_trans (bits_nat h) (by decide))
theorem bits_kk {k : Nat} (h : k ≤ 100000) : intBits ((k : Int) * (k : Int)) ≤ 1048576 := by
  have h1 := bits_nat h
  exact Nat.le_trans (intBits_mul_le h1 h1) (by decide)
theorem ok_pick {x : Int} {k : Nat} (h : k ≤ 100000) (hx : intBits x ≤ 1048576) : IntMulOk (x + 1009) (x + 48271 + (k : Int) * (k : Int)) := by
  have a1 : intBits (1009 : Int) ≤ 1048576 := Nat.le_trans (bits_small (k := 1009) (by decide)) (by decide)
  have a2 : intBits (48271 : Int) ≤ 1048577 := Nat.le_trans (bits_small (k := 48271) (by decide)) (by decide)
  have b1 := intBits_add_le hx a1
  have b2 := intBits_add_le (Nat.le_succ_of_le hx) a2
  have b3 := intBits_add_le b2 (bits_kk h)
  exact .of_le b1 b3 (by decide)
theorem ok_w1 {x : Int} : IntMulOk 2147483629 x := .of_left (Nat.le_trans (bits_small (k := 2147483629) (by decide)) (by decide))
theorem ok_w2 {x : Int} (hx : intBits x ≤ 1048576) : IntMulOk (2147483629 * x) x := 
  .of_le (intBits_mul_le (bits_small (k := 2147483629) (by decide)) hx) hx (by decide)
theorem ok_w3 {x : Int} (hx : intBits x ≤ 1048576) : IntMulOk (2147483629 * x * x) x := 
  .of_le (intBits_mul_le (intBits_mul_le (bits_small (k := 2147483629) (by decide)) hx) hx) hx (by decide)
end
section
variable {P : Program} {w : World} {K : PySem.W.Frag} {mg : Str → Option Value} {base : Heap} {C : Addr}
def spPick (K : PySem.W.Frag) : Sp := fun vs H Q _ => ∃ (sv : V) (k m : Nat), vs = [sv, .int (k : Int), .int (m : Int)] ∧ Scr K H sv ∧ k ≤ 100000 ∧ 0 < m ∧ ∀ r : Nat, r < m → Q (.int (r : Int)) H
theorem df_pick (T : Tx K mg "_law_pick" sPick) (B : Bi mg) : Df P w K mg base 1 "_law_pick" ["_law_script", "_law_k", "_law_many"] (spPick K) := by
  refine df_mk T (fun _ _ _ _ _ _ us hl => match us, hl with | [_, _, _], _ => rfl) fun f fd F _ => ?_
  refine F.ok scPick (fun vs H Q E h => ?_) (fun cdv A outer s H vs Q E hr h => ?_)
  · obtain ⟨sv, k, m, rfl, _⟩ := h
    rfl
  obtain ⟨sv, k, m, rfl, ⟨a, ns, rfl, hs, hl, hb⟩, hk, hm, q⟩ := h
  refine ⟨_, pss_cons (ps_set (i := 3) scPick.nd rfl (Or.inl rfl) pe_int)
    (Evl.pss_cut (ps_if (pt_cmpR op_gt (pe_callB call_len_seq (by rfl) B.len PySem.boot_len (pa_cons (pv 0) pa_nil)) pe_int (nomark _))
      (pss_one (ps_set (i := 3) scPick.nd rfl (Or.inl rfl) (pe_ix ix_list (pv 0) (pe_op op_mod (pv 1) (pe_callB call_len_seq (by rfl) B.len PySem.boot_len (pa_cons (pv 0) pa_nil))) (fun _ _ => rfl)))) pss_nil)
    (pss_one (ps_ret (pe_op op_mod (pe_op op_mod (pe_op op_mod (pe_op op_mulB (pe_op op_add (pv 3) pe_int) (pe_op op_add (pe_op op_add (pv 3) pe_int) (pe_op op_mulB (pv 1) (pv 1)))) pe_int) pe_int) (pv 2))))), ?_⟩
  refine u_set ?_
  refine ⟨fun σ H' => H' = H ∧ ∃ x : Int, Builtin.Int.intBits x ≤ 1048576 ∧ σ = [some (.ref a), some (.int (k : Int)), some (.int (m : Int)), some (.int x)], ?_, ?_⟩
  · refine ⟨_, rfl, a, _, rfl, .inl hs, _, _, rfl, rfl, _, rfl, ?_⟩
    refine ite2 (fun c => ?_) (fun c => ?_)
    · have c := of_decide_eq_true c
      have hlt := emod_range (i := (k : Int)) c
      obtain ⟨j, hj⟩ : ∃ j : Nat, (k : Int) % (((ns.map V.int).length : Nat) : Int) = (j : Int) := ⟨((k : Int) % (((ns.map V.int).length : Nat) : Int)).toNat, by omega⟩
      have hjl : j < ns.length := by
        rw [List.length_map] at hlt hj
        omega
      refine ⟨_, rfl, _, rfl, _, rfl, a, _, rfl, .inl hs, _, _, rfl, rfl, c, a, _, _, _, rfl, rfl, hs, at_of (j := j) hj (v := .int ns[j]) (by rw [List.getElem?_map, List.getElem?_eq_getElem hjl]; rfl), rfl, ns[j], hb _ (List.getElem_mem hjl), rfl⟩
    · exact ⟨rfl, 0, Nat.zero_le _, rfl⟩
  rintro σ H' ⟨rfl, x, hx, rfl⟩
  refine ⟨_, rfl, _, _, rfl, rfl, _, rfl, _, _, rfl, rfl, _, rfl, _, rfl, _, _, rfl, rfl, ok_kk hk, _, _, rfl, rfl, _, _, rfl, rfl, ok_pick hk hx, _, _, rfl, rfl, Int.ofNat_lt.mpr (by decide : 0 < 2147483629), _, _, rfl, rfl, Int.ofNat_lt.mpr (by decide : 0 < 999983), _, rfl, _, _, rfl, rfl, by omega, ?_⟩
  generalize (x + 1009) * (x + 48271 + (k : Int) * (k : Int)) % 2147483629 % 999983 = y
  have h := emod_range (i := y) (j := (m : Int)) (by omega)
  have e : y % (m : Int) = (((y % (m : Int)).toNat : Nat) : Int) := by omega
  show Q (.int (y % (m : Int))) _
  rw [e]
  exact q _ (by omega)
def spWide (K : PySem.W.Frag) : Sp := fun vs H Q _ => ∃ (sv : V) (k : Nat) (m : Int), vs = [sv, .int (k : Int), .int m] ∧ Scr K H sv ∧ k ≤ 100000 ∧ 0 < m ∧ ∀ r : Int, 0 ≤ r → r < m → Q (.int r) H
theorem df_wide (T : Tx K mg "_law_wide" sWide) (B : Bi mg) (PK : Df P w K mg base 1 "_law_pick" ["_law_script", "_law_k", "_law_many"] (spPick K)) : Df P w K mg base 2 "_law_wide" ["_law_script", "_law_k", "_law_many"] (spWide K) := by
  refine df_mk T (fun _ _ _ _ _ _ us hl => match us, hl with | [_, _, _], _ => rfl) fun f fd F _ => ?_
  refine F.ok scWide (fun vs H Q E h => ?_) (fun cdv A outer s H vs Q E hr h => ?_)
  · obtain ⟨sv, k, m, rfl, _⟩ := h
    rfl
  obtain ⟨sv, k, m, rfl, ⟨a, ns, rfl, hs, hl, hb⟩, hk, hm, q⟩ := h
  refine ⟨_, pss_cons (ps_set (i := 3) scWide.nd rfl (Or.inl rfl) pe_int)
    (Evl.pss_cut (ps_if (pt_cmpR op_gt (pe_callB call_len_seq (by rfl) B.len PySem.boot_len (pa_cons (pv 0) pa_nil)) pe_int (nomark _))
      (pss_one (ps_set (i := 3) scWide.nd rfl (Or.inl rfl) (pe_ix ix_list (pv 0) (pe_op op_mod (pv 1) (pe_callB call_len_seq (by rfl) B.len PySem.boot_len (pa_cons (pv 0) pa_nil))) (fun _ _ => rfl)))) pss_nil)
    (pss_one (ps_ret (pe_op op_mod (pe_op op_add (callD PK hr (pa_cons (pv 0) (pa_cons (pv 1) (pa_cons pe_int pa_nil)))) (pe_op op_mulB (pe_op op_mulB (pe_op op_mulB pe_int (pv 3)) (pv 3)) (pv 3))) (pv 2))))), ?_⟩
  refine u_set ?_
  refine ⟨fun σ H' => H' = H ∧ ∃ x : Int, Builtin.Int.intBits x ≤ 1048576 ∧ σ = [some (.ref a), some (.int (k : Int)), some (.int m), some (.int x)], ?_, ?_⟩
  · refine ⟨_, rfl, a, _, rfl, .inl hs, _, _, rfl, rfl, _, rfl, ?_⟩
    refine ite2 (fun c => ?_) (fun c => ?_)
    · have c := of_decide_eq_true c
      have hlt := emod_range (i := (k : Int)) c
      obtain ⟨j, hj⟩ : ∃ j : Nat, (k : Int) % (((ns.map V.int).length : Nat) : Int) = (j : Int) := ⟨((k : Int) % (((ns.map V.int).length : Nat) : Int)).toNat, by omega⟩
      have hjl : j < ns.length := by
        rw [List.length_map] at hlt hj
        omega
      refine ⟨_, rfl, _, rfl, _, rfl, a, _, rfl, .inl hs, _, _, rfl, rfl, c, a, _, _, _, rfl, rfl, hs, at_of (j := j) hj (v := .int ns[j]) (by rw [List.getElem?_map, List.getElem?_eq_getElem hjl]; rfl), rfl, ns[j], hb _ (List.getElem_mem hjl), rfl⟩
    · exact ⟨rfl, 0, Nat.zero_le _, rfl⟩
  rintro σ H' ⟨rfl, x, hx, rfl⟩
  refine ⟨_, rfl, _, rfl, _, k, 999983, rfl, ⟨a, ns, rfl, hs, hl, hb⟩, hk, by decide, fun r hr0 => ?_⟩
  refine ⟨_, rfl, _, _, rfl, rfl, ok_w1, _, rfl, _, _, rfl, rfl, ok_w2 hx, _, rfl, _, _, rfl, rfl, ok_w3 hx, _, _, rfl, rfl, _, rfl, _, _, rfl, rfl, hm, ?_⟩
  have h := emod_range (i := (r : Int) + 2147483629 * x * x * x) hm
  exact q _ h.1 h.2
end
end Gz
namespace Gz
open PySem PySem.Spec PyProof.Rows L2
theorem u_norm {t : TS} {D : Ends} {σ σ' : L2.St} {H : Hp} (e : σ = σ') (h : t D σ' H) : t D σ H := by
  rw [e]
  exact h
section
variable {P : Program} {w : World} {K : PySem.W.Frag} {mg : Str → Option Value} {base : Heap} {C : Addr}
theorem ok_sm {r : Nat} {x : Int} (h : r ≤ 100000) : IntMulOk (r : Int) x := .of_left (Nat.le_trans (bits_nat h) (by decide))
theorem int_eq {i j : Int} : decide (V.int i = V.int j) = decide (i = j) := decide_eq_decide.mpr ⟨fun h => by injection h, fun h => by rw [h]⟩
def shapeV (b : Bd) (far : Int) : List V := [.int (b.eyes : Int), .int (b.turns : Int), .int b.up, .int b.down, .int (b.most : Int), .int far]
def ShapeAt (H : Hp) (v : V) (b : Bd) (far : Int) : Prop := ∃ a, v = .ref a ∧ H a = some (.lst (shapeV b far))
theorem shape_mono {H H' : Hp} (s : Same H H') {v : V} {b : Bd} {far : Int} (h : ShapeAt H v b far) : ShapeAt H' v b far := by
  obtain ⟨a, e, h⟩ := h
  exact ⟨a, e, s _ _ h⟩
def spShape (K : PySem.W.Frag) : Sp := fun vs H Q _ => ∃ sv : V, vs = [sv] ∧ Scr K H sv ∧ ∀ (b : Bd) (far : Int) p H', BOk b → 1 ≤ far → Same H H' → H p = none → H' p = some (.lst (shapeV b far)) → Q (.ref p) H'
def L4 (a e : Nat) : Prop := a = 4 → e ≤ 4
def ShS (L : Nat → Nat → Prop) (sv : V) (H : Hp) (σ : L2.St) (H' : Hp) : Prop := H' = H ∧ ∃ wy e t m : Nat, σ = [some sv, some (.int (wy : Int)), some (.int (e : Int)), some (.int (t : Int)), some (.int (m : Int)), none, none, none] ∧ 1 ≤ e ∧ e ≤ 7 ∧ 1 ≤ t ∧ t ≤ 12 ∧ m ≤ e ∧ L wy e
theorem min_nat (i j : Nat) : (if (j : Int) < (i : Int) then (j : Int) else (i : Int)) = ((min i j : Nat) : Int) := by
  split <;> omega
theorem far_at (a b : Int) (ha : 1 ≤ a) (hb : 1 ≤ b) {r : Nat} (h : r < 6) : ∃ f : Int, 1 ≤ f ∧ [V.int 1, .int 1, .int 1, .int 1, .int a, .int b][r]? = some (.int f) := by
  match r, h with
  | 0, _ => exact ⟨1, by decide, rfl⟩
  | 1, _ => exact ⟨1, by decide, rfl⟩
  | 2, _ => exact ⟨1, by decide, rfl⟩
  | 3, _ => exact ⟨1, by decide, rfl⟩
  | 4, _ => exact ⟨a, ha, rfl⟩
  | 5, _ => exact ⟨b, hb, rfl⟩
theorem df_shape (T : Tx K mg "_law_shape" sShape) (B : Bi mg) (PK : Df P w K mg base 1 "_law_pick" ["_law_script", "_law_k", "_law_many"] (spPick K)) (WD : Df P w K mg base 2 "_law_wide" ["_law_script", "_law_k", "_law_many"] (spWide K)) :
    Df P w K mg base 3 "_law_shape" ["_law_script"] (spShape K) := by
  refine df_mk T (fun _ _ _ _ _ _ us hl => match us, hl with | [_], _ => rfl) fun f fd F _ => ?_
  refine F.ok scShape (fun vs H Q E h => ?_) (fun cdv A outer s H vs Q E hr h => ?_)
  · obtain ⟨sv, rfl, _⟩ := h
    rfl
  obtain ⟨sv, rfl, hs, q⟩ := h
  have hr1 : Room 1 _ := hr.mono (by decide)
  refine ⟨_, pss_cons (ps_set (i := 1) scShape.nd rfl (Or.inl rfl) (callD PK hr1 (pa_cons (pv 0) (pa_cons pe_int (pa_cons pe_int pa_nil)))))
    (pss_cons (ps_set (i := 2) scShape.nd rfl (Or.inl rfl) (pe_op op_add pe_int (callD PK hr1 (pa_cons (pv 0) (pa_cons pe_int (pa_cons pe_int pa_nil))))))
    (pss_cons (ps_set (i := 3) scShape.nd rfl (Or.inl rfl) (pe_op op_add pe_int (callD PK hr1 (pa_cons (pv 0) (pa_cons pe_int (pa_cons pe_int pa_nil))))))
    (pss_cons (ps_set (i := 4) scShape.nd rfl (Or.inl rfl) (pe_callB (call_min2 rfl) (by rfl) B.min (by decide +kernel) (pa_cons (pv 2) (pa_cons (callD PK hr1 (pa_cons (pv 0) (pa_cons pe_int (pa_cons pe_int pa_nil)))) pa_nil))))
    (Evl.pss_cut (ps_if (pt_cmpR op_eq (pv 1) pe_int (nomark _))
      (pss_cons (ps_set (i := 2) scShape.nd rfl (Or.inl rfl) pe_int)
      (pss_cons (ps_set (i := 3) scShape.nd rfl (Or.inl rfl) (pe_op op_add pe_int (pe_op op_mod (pv 3) pe_int)))
      (pss_one (ps_set (i := 4) scShape.nd rfl (Or.inl rfl) (callD PK hr1 (pa_cons (pv 0) (pa_cons pe_int (pa_cons pe_int pa_nil)))))))) pss_nil)
    (Evl.pss_cut (ps_if (pt_cmpR op_eq (pv 1) pe_int (nomark _))
      (pss_cons (ps_set (i := 2) scShape.nd rfl (Or.inl rfl) (pe_op op_add pe_int (pe_op op_mod (pv 2) pe_int)))
      (pss_cons (ps_set (i := 3) scShape.nd rfl (Or.inl rfl) (pe_op op_add pe_int (callD PK hr1 (pa_cons (pv 0) (pa_cons pe_int (pa_cons pe_int pa_nil))))))
      (pss_one (ps_set (i := 4) scShape.nd rfl (Or.inl rfl) (pe_callB (call_min2 rfl) (by rfl) B.min (by decide +kernel) (pa_cons (pv 2) (pa_cons (pv 4) pa_nil))))))) pss_nil)
    (Evl.pss_cut (ps_if (pt_cmpR op_eq (pv 1) pe_int (nomark _))
      (pss_cons (ps_set (i := 2) scShape.nd rfl (Or.inl rfl) (pe_op op_add pe_int (pe_op op_mod (pv 2) pe_int)))
      (pss_cons (ps_set (i := 3) scShape.nd rfl (Or.inl rfl) pe_int)
      (pss_one (ps_set (i := 4) scShape.nd rfl (Or.inl rfl) (callD PK hr1 (pa_cons (pv 0) (pa_cons pe_int (pa_cons (pe_op op_add (pv 2) pe_int) pa_nil)))))))) pss_nil)
    (Evl.pss_cut (ps_if (pt_cmpR op_eq (pv 1) pe_int (nomark _))
      (pss_cons (ps_set (i := 2) scShape.nd rfl (Or.inl rfl) (pe_op op_add pe_int (pv 2)))
      (pss_cons (ps_set (i := 3) scShape.nd rfl (Or.inl rfl) (pe_op op_add pe_int (callD PK hr1 (pa_cons (pv 0) (pa_cons pe_int (pa_cons pe_int pa_nil))))))
      (pss_one (ps_set (i := 4) scShape.nd rfl (Or.inl rfl) (pe_callB (call_min2 rfl) (by rfl) B.min (by decide +kernel) (pa_cons (pv 4) (pa_cons pe_int pa_nil))))))) pss_nil)
    (pss_cons (ps_set (i := 5) scShape.nd rfl (Or.inl rfl) (pe_ix ix_list (pe_lst (pa_cons pe_int (pa_cons pe_int (pa_cons pe_int (pa_cons pe_int (pa_cons (pe_op op_add (pe_op op_pow pe_int pe_int) pe_int)
        (pa_cons (pe_op op_add pe_int (callD WD hr (pa_cons (pv 0) (pa_cons pe_int (pa_cons (pe_op op_pow pe_int pe_int) pa_nil))))) pa_nil)))))))
        (callD PK hr1 (pa_cons (pv 0) (pa_cons pe_int (pa_cons pe_int pa_nil)))) (fun _ _ => rfl)))
    (pss_cons (ps_set (i := 6) scShape.nd rfl (Or.inl rfl) (pe_op op_mulB (callD PK hr1 (pa_cons (pv 0) (pa_cons pe_int (pa_cons pe_int pa_nil)))) (pv 5)))
    (pss_cons (ps_set (i := 7) scShape.nd rfl (Or.inl rfl) (pe_op op_mulB (callD PK hr1 (pa_cons (pv 0) (pa_cons pe_int (pa_cons pe_int pa_nil)))) (pv 5)))
    (Evl.pss_cut (ps_if (pt_cmpR op_eq (callD PK hr1 (pa_cons (pv 0) (pa_cons pe_int (pa_cons pe_int pa_nil)))) pe_int (nomark _))
      (pss_cons (ps_set (i := 6) scShape.nd rfl (Or.inl rfl) pe_int) (pss_one (ps_set (i := 7) scShape.nd rfl (Or.inl rfl) pe_int))) pss_nil)
    (pss_one (ps_ret (pe_lst (pa_cons (pv 2) (pa_cons (pv 3) (pa_cons (pv 6) (pa_cons (pv 7) (pa_cons (pv 4) (pa_cons (pv 5) pa_nil)))))))))))))))))))), ?_⟩
  refine u_set ?_
  refine ⟨_, rfl, _, 0, 8, rfl, hs, by decide, by decide, fun wy hwy => ?_⟩
  refine u_set ?_
  refine ⟨_, rfl, _, 1, 4, rfl, hs, by decide, by decide, fun r1 hr1 => ⟨_, _, rfl, rfl, ?_⟩⟩
  refine u_set ?_
  refine ⟨_, rfl, _, 2, 4, rfl, hs, by decide, by decide, fun r2 hr2 => ⟨_, _, rfl, rfl, ?_⟩⟩
  refine u_set ?_
  refine ⟨_, rfl, _, rfl, _, 6, 4, rfl, hs, by decide, by decide, fun r3 hr3 => ⟨_, _, rfl, ?_⟩⟩
  have e1 : (1 : Int) + (r1 : Int) = ((1 + r1 : Nat) : Int) := by omega
  have e2 : (1 : Int) + (r2 : Int) = ((1 + r2 : Nat) : Int) := by omega
  show Evl.tCut _ _ _ _ _
  refine u_norm (σ' := [some sv, some (V.int (wy : Int)), some (V.int ((1 + r1 : Nat) : Int)), some (V.int ((1 + r2 : Nat) : Int)), some (V.int ((min (1 + r1) r3 : Nat) : Int)), none, none, none]) ?_ ?_
  · show [some sv, some (V.int (wy : Int)), some (V.int (1 + (r1 : Int))), some (V.int (1 + (r2 : Int))), some (V.int (if (r3 : Int) < 1 + (r1 : Int) then (r3 : Int) else 1 + (r1 : Int))), none, none, none] = _
    rw [e1, e2, min_nat]
  obtain ⟨e, ee⟩ : ∃ e, 1 + r1 = e := ⟨_, rfl⟩
  obtain ⟨t, et⟩ : ∃ t, 1 + r2 = t := ⟨_, rfl⟩
  obtain ⟨m, em⟩ : ∃ m, min (1 + r1) r3 = m := ⟨_, rfl⟩
  rw [em, ee, et]
  have t1 : 1 ≤ t := by omega
  have t2 : t ≤ 12 := by omega
  have me : m ≤ e := by omega
  have w4 : L4 wy e := fun z => by omega
  have e1 : 1 ≤ e := by omega
  have e2 : e ≤ 7 := by omega
  clear hr1 hr2 hr3 hwy ee et em
  -- the first way
  refine ⟨ShS L4 sv H, ?_, ?_⟩
  · refine ⟨_, rfl, rfl, _, rfl, ?_⟩
    refine ite2 (fun c => ?_) (fun c => ?_)
    · rw [int_eq] at c
      have c := of_decide_eq_true c
      refine ⟨_, rfl, _, _, rfl, rfl, Int.ofNat_lt.mpr (by decide : 0 < 2), _, _, rfl, rfl, ?_⟩
      refine ⟨_, rfl, _, 6, 5, rfl, hs, by decide, by decide, fun r hr => ⟨rfl, wy, 7, 1 + t % 2, r, ?_, by omega, by omega, by omega, by omega, by omega, fun z => by omega⟩⟩
      show [some sv, some (V.int (wy : Int)), some (V.int 7), some (V.int (1 + (t : Int) % 2)), some (V.int (r : Int)), none, none, none] = _
      rw [show (1 : Int) + (t : Int) % 2 = ((1 + t % 2 : Nat) : Int) by omega]
      rfl
    · exact ⟨rfl, wy, e, t, m, rfl, e1, e2, t1, t2, me, w4⟩
  clear e1 e2 t1 t2 me w4
  rintro σ H' ⟨rfl, wy, e, t, m, rfl, e1, e2, t1, t2, me, w4⟩
  -- the second
  refine ⟨ShS L4 sv H', ?_, ?_⟩
  · refine ⟨_, rfl, rfl, _, rfl, ?_⟩
    refine ite2 (fun c => ?_) (fun c => ?_)
    · rw [int_eq] at c
      have c := of_decide_eq_true c
      refine ⟨_, rfl, _, _, rfl, rfl, Int.ofNat_lt.mpr (by decide : 0 < 2), _, _, rfl, rfl, ?_⟩
      refine ⟨_, rfl, _, 7, 8, rfl, hs, by decide, by decide, fun r hr => ⟨_, _, rfl, rfl, ?_⟩⟩
      refine ⟨_, rfl, _, rfl, _, _, rfl, ?_⟩
      refine ⟨rfl, wy, 1 + e % 2, 5 + r, min (1 + e % 2) m, ?_, by omega, by omega, by omega, by omega, by omega, fun z => by omega⟩
      show [some sv, some (V.int (wy : Int)), some (V.int (1 + (e : Int) % 2)), some (V.int (5 + (r : Int))), some (V.int (if (m : Int) < 1 + (e : Int) % 2 then (m : Int) else 1 + (e : Int) % 2)), none, none, none] = _
      rw [show (1 : Int) + (e : Int) % 2 = ((1 + e % 2 : Nat) : Int) by omega, show (5 : Int) + (r : Int) = ((5 + r : Nat) : Int) by omega, min_nat]
    · exact ⟨rfl, wy, e, t, m, rfl, e1, e2, t1, t2, me, w4⟩
  clear e1 e2 t1 t2 me w4
  rintro σ H' ⟨rfl, wy, e, t, m, rfl, e1, e2, t1, t2, me, w4⟩
  -- the third
  refine ⟨ShS L4 sv H', ?_, ?_⟩
  · refine ⟨_, rfl, rfl, _, rfl, ?_⟩
    refine ite2 (fun c => ?_) (fun c => ?_)
    · rw [int_eq] at c
      have c := of_decide_eq_true c
      refine ⟨_, rfl, _, _, rfl, rfl, Int.ofNat_lt.mpr (by decide : 0 < 3), _, _, rfl, rfl, ?_⟩
      refine ⟨_, rfl, _, rfl, _, _, rfl, rfl, _, 7, 5 + e % 3 + 1, ?_, hs, by decide, by omega, fun r hr => ?_⟩
      · show [sv, V.int 7, V.int (5 + (e : Int) % 3 + 1)] = _
        rw [show (5 : Int) + (e : Int) % 3 + 1 = ((5 + e % 3 + 1 : Nat) : Int) by omega]
        rfl
      refine ⟨rfl, wy, 5 + e % 3, 1, r, ?_, by omega, by omega, by omega, by omega, by omega, fun z => by omega⟩
      show [some sv, some (V.int (wy : Int)), some (V.int (5 + (e : Int) % 3)), some (V.int 1), some (V.int (r : Int)), none, none, none] = _
      rw [show (5 : Int) + (e : Int) % 3 = ((5 + e % 3 : Nat) : Int) by omega]
      rfl
    · exact ⟨rfl, wy, e, t, m, rfl, e1, e2, t1, t2, me, w4⟩
  clear e1 e2 t1 t2 me w4
  rintro σ H' ⟨rfl, wy, e, t, m, rfl, e1, e2, t1, t2, me, w4⟩
  -- the fourth
  refine ⟨ShS (fun _ _ => True) sv H', ?_, ?_⟩
  · refine ⟨_, rfl, rfl, _, rfl, ?_⟩
    refine ite2 (fun c => ?_) (fun c => ?_)
    · rw [int_eq] at c
      have c := of_decide_eq_true c
      have w4 := w4 (by omega)
      refine ⟨_, rfl, _, _, rfl, rfl, ?_⟩
      refine ⟨_, rfl, _, 7, 8, rfl, hs, by decide, by decide, fun r hr => ⟨_, _, rfl, rfl, ?_⟩⟩
      refine ⟨_, rfl, _, _, rfl, ?_⟩
      refine ⟨rfl, wy, 3 + e, 5 + r, min m 2, ?_, by omega, by omega, by omega, by omega, by omega, trivial⟩
      show [some sv, some (V.int (wy : Int)), some (V.int (3 + (e : Int))), some (V.int (5 + (r : Int))), some (V.int (if (2 : Int) < (m : Int) then 2 else (m : Int))), none, none, none] = _
      rw [show (3 : Int) + (e : Int) = ((3 + e : Nat) : Int) by omega, show (5 : Int) + (r : Int) = ((5 + r : Nat) : Int) by omega, show (2 : Int) = ((2 : Nat) : Int) from rfl, min_nat]
    · exact ⟨rfl, wy, e, t, m, rfl, e1, e2, t1, t2, me, trivial⟩
  clear e1 e2 t1 t2 me w4
  rintro σ H' ⟨rfl, wy, e, t, m, rfl, e1, e2, t1, t2, me, _⟩
  refine u_set ?_
  refine ⟨_, _, rfl, rfl, ⟨by decide, by decide, by decide⟩, _, _, rfl, rfl, _, rfl, _, _, rfl, rfl, ⟨by decide, by decide, by decide⟩, _, 240, (10 : Int) ^ (57 : Int).toNat, rfl, hs, by decide, by decide, fun x hx0 hx => ?_⟩
  refine ⟨_, _, rfl, rfl, (by show 6 ≤ sizeLine; decide), fun l nl => ?_⟩
  have s1 : Same H' (upd H' l (.lst [V.int 1, .int 1, .int 1, .int 1, .int ((10 : Int) ^ (9 : Int).toNat + 7), .int (1 + x)])) := same_new nl _
  have hl : (upd H' l (.lst [V.int 1, .int 1, .int 1, .int 1, .int ((10 : Int) ^ (9 : Int).toNat + 7), .int (1 + x)])) l = some (.lst [V.int 1, .int 1, .int 1, .int 1, .int ((10 : Int) ^ (9 : Int).toNat + 7), .int (1 + x)]) := upd_same
  generalize upd H' l (.lst [V.int 1, .int 1, .int 1, .int 1, .int ((10 : Int) ^ (9 : Int).toNat + 7), .int (1 + x)]) = H1 at *
  refine ⟨_, rfl, _, 3, 6, rfl, scr_mono s1 hs, by decide, by decide, fun r hr => ?_⟩
  obtain ⟨far, hfar, hf2⟩ := far_at ((10 : Int) ^ (9 : Int).toNat + 7) (1 + x) (by decide) (by omega) hr
  refine ⟨l, _, _, _, rfl, rfl, lst_at hl, at_of (j := r) rfl hf2, ?_⟩
  refine u_set ?_
  refine ⟨_, rfl, _, 4, 7, rfl, scr_mono s1 hs, by decide, by decide, fun r4 hr4 => ?_⟩
  refine ⟨_, rfl, _, _, rfl, rfl, ok_sm (by omega), ?_⟩
  refine u_set ?_
  refine ⟨_, rfl, _, 5, 7, rfl, scr_mono s1 hs, by decide, by decide, fun r5 hr5 => ?_⟩
  refine ⟨_, rfl, _, _, rfl, rfl, ok_sm (by omega), ?_⟩
  have p4 : 0 ≤ (r4 : Int) * far := Int.mul_nonneg (by omega) (by omega)
  have p5 : 0 ≤ (r5 : Int) * far := Int.mul_nonneg (by omega) (by omega)
  refine ⟨fun σ H2 => H2 = H1 ∧ ∃ u d : Int, 0 ≤ u ∧ 0 ≤ d ∧ σ = [some sv, some (V.int (wy : Int)), some (V.int (e : Int)), some (V.int (t : Int)), some (V.int (m : Int)), some (V.int far), some (V.int u), some (V.int d)], ?_, ?_⟩
  · refine ⟨_, rfl, _, 8, 6, rfl, scr_mono s1 hs, by decide, by decide, fun r8 _ => ?_⟩
    refine ⟨rfl, _, rfl, ?_⟩
    refine ite2 (fun c => ?_) (fun c => ?_)
    · exact ⟨rfl, 0, 0, by decide, by decide, rfl⟩
    · exact ⟨rfl, _, _, p4, p5, rfl⟩
  rintro σ H2 ⟨rfl, u, d, hu, hd, rfl⟩
  refine ⟨_, rfl, _, rfl, _, rfl, _, rfl, _, rfl, _, rfl, (by show 6 ≤ sizeLine; decide), fun p np => ?_⟩
  exact q ⟨e, t, u, d, m⟩ far p _ ⟨e1, e2, t1, t2, hu, hd, me⟩ hfar (s1.trans (same_new np _)) (s1.free np) upd_same
end
end Gz
namespace Gz
open PySem PySem.Spec PyProof.Rows L2
theorem cAt_left {c : List Int} {x : Int} {k : Nat} (h : k < c.length) : cAt (c ++ [x]) k = cAt c k := by
  unfold cAt
  rw [List.getD_eq_getElem?_getD, List.getD_eq_getElem?_getD, List.getElem?_append_left h]
theorem cAt_last {c : List Int} {x : Int} : cAt (c ++ [x]) c.length = x := by
  unfold cAt
  rw [List.getD_eq_getElem?_getD, List.getElem?_append_right (Nat.le_refl _), Nat.sub_self]
  rfl
theorem size_at (a b : Int) (ha : 1 ≤ a) (hb : 1 ≤ b) {r : Nat} (h : r < 4) : ∃ f : Int, 1 ≤ f ∧ [V.int 9, .int 1000, .int a, .int b][r]? = some (.int f) := by
  match r, h with
  | 0, _ => exact ⟨9, by decide, rfl⟩
  | 1, _ => exact ⟨1000, by decide, rfl⟩
  | 2, _ => exact ⟨a, ha, rfl⟩
  | 3, _ => exact ⟨b, hb, rfl⟩
theorem ok_ten : IntMulOk ((10 : Int) ^ (60 : Int).toNat) ((10 : Int) ^ (60 : Int).toNat) :=
  .of_le (m := 200) (n := 200) (intBits_le_iff.mpr (by decide)) (intBits_le_iff.mpr (by decide)) (by decide)
section
variable {P : Program} {w : World} {K : PySem.W.Frag} {mg : Str → Option Value} {base : Heap} {C : Addr}
def spIn : Sp := fun vs H Q _ => ∃ (ov : V) (s : Sn) (n : Int), vs = [ov, .int n] ∧ SpanAt H ov s ∧ Q (.bl (decide (In s n))) H
theorem df_in (T : Tx K mg "_law_in" sIn) : Df P w K mg base 1 "_law_in" ["_law_span", "_law_number"] spIn := by
  refine df_mk T (fun _ _ _ _ _ _ us hl => match us, hl with | [_, _], _ => rfl) fun f fd F _ => ?_
  refine F.ok scIn (fun vs H Q E h => ?_) (fun cdv A outer s H vs Q E hr h => ?_)
  · obtain ⟨ov, s, n, rfl, _⟩ := h
    rfl
  obtain ⟨ov, ⟨lo, hi⟩, n, rfl, ⟨a, rfl, ha⟩, q⟩ := h
  refine ⟨_, pss_cons (ps_if (PW.pt (pw_and (pt_cmpR op_notN (pe_ix ix_tup (pv 0) pe_int (fun _ _ => rfl)) pe_non (nomark _)) (pw_and1 (pt_cmpR op_lt (pv 1) (pe_ix ix_tup (pv 0) pe_int (fun _ _ => rfl)) (nomark _))))) (pss_one (ps_ret pe_bl)) pss_nil)
    (pss_one (ps_ret (pe_or (pe_cmpR op_isN (pe_ix ix_tup (pv 0) pe_int (fun _ _ => rfl)) pe_non (nomark _)) (pe_one (pe_cmpR op_le (pv 1) (pe_ix ix_tup (pv 0) pe_int (fun _ _ => rfl)) (nomark _)))))), ?_⟩
  have fin : loOk lo n → tOrV (tOp (fun x y H Q => y = .non ∧ Q (.bl (decide (x = .non))) H) (tOp (rIxT K) (tVar 0) (tC (.int 1))) (tC .non)) (tOp (rI0 fun i j => .bl (decide (i ≤ j))) (tVar 1) (tOp (rIxT K) (tVar 0) (tC (.int 1)))) [some (.ref a), some (.int n)] H Q := by
    intro hlo
    refine ⟨_, rfl, a, _, _, _, rfl, rfl, tup_at ha, rfl, rfl, _, rfl, ?_⟩
    cases hi with
    | none =>
      refine iteT ?_
      rw [show decide (In (lo, none) n) = true from decide_eq_true ⟨hlo, trivial⟩] at q
      exact q
    | some u =>
      refine iteF ?_
      refine ⟨_, rfl, _, rfl, a, _, _, _, rfl, rfl, tup_at ha, rfl, _, _, rfl, rfl, ?_⟩
      have e : decide (In (lo, some u) n) = decide (n ≤ u) := decide_eq_decide.mpr ⟨fun h => h.2, fun h => ⟨hlo, h⟩⟩
      rw [e] at q
      exact q
  refine u_if1 ?_
  refine ⟨_, rfl, a, _, _, _, rfl, rfl, tup_at ha, rfl, rfl, _, rfl, ?_⟩
  cases lo with
  | none =>
    refine iteF (iteF ?_)
    exact fin trivial
  | some l =>
    refine iteT ⟨_, rfl, _, rfl, a, _, _, _, rfl, rfl, tup_at ha, rfl, _, _, rfl, rfl, _, rfl, ?_⟩
    refine ite2 (fun c => ?_) (fun c => ?_)
    · have c := of_decide_eq_true c
      rw [show decide (In (some l, hi) n) = false from decide_eq_false fun z => by
        have z1 : l ≤ n := z.1
        omega] at q
      exact q
    · have c : ¬ n < l := fun z => c (decide_eq_true z)
      exact fin (show l ≤ n by omega)
def spWhole : Sp := fun vs H Q _ => ∃ n : Int, vs = [.int n] ∧ Q (.bl true) H
theorem df_whole (T : Tx K mg "_law_whole" sWhole) (B : Bi mg) : Df P w K mg base 1 "_law_whole" ["_law_found"] spWhole := by
  refine df_mk T (fun _ _ _ _ _ _ us hl => match us, hl with | [_], _ => rfl) fun f fd F _ => ?_
  refine F.ok scWhole (fun vs H Q E h => ?_) (fun cdv A outer s H vs Q E hr h => ?_)
  · obtain ⟨n, rfl, _⟩ := h
    rfl
  obtain ⟨n, rfl, q⟩ := h
  refine ⟨_, pss_one (ps_ret (pe_and (pe_callB RZ.call_isTy (by rfl) B.isinst (by decide +kernel) (pa_cons (pv 0) (pa_cons (pe_bltn (v := .ty "int") (u := .type "int") (by rfl) B.int (by decide +kernel) rfl) pa_nil)))
    (pe_one (pe_not (pe_callB call_isi (by rfl) B.isinst (by decide +kernel) (pa_cons (pv 0) (pa_cons (pe_bltn (v := .ty "bool") (u := .type "bool") (by rfl) B.bool (by decide +kernel) rfl) pa_nil))))))), ?_⟩
  refine ⟨_, rfl, _, "int", rfl, .int n, _, rfl, iteT ⟨_, rfl, _, _, .type "int", .type "bool", false, rfl, .ty _, .base (.int n), kit_ty (by decide +kernel), _, rfl, q⟩⟩
def spWord (K : PySem.W.Frag) : Sp := fun vs H Q _ => ∃ (sv : V) (k : Nat) (far n : Int) (fl : Bool), vs = [sv, .int (k : Int), .int far, .int n, .bl fl] ∧ Scr K H sv ∧ k ≤ 50000 ∧ 1 ≤ far ∧
  ∀ (s : Sn) p H', Full s → (fl = false → In s n) → Same H H' → H p = none → H' p = some (.tup [vO s.1, vO s.2]) → Q (.ref p) H'
theorem df_word (T : Tx K mg "_law_word" sWord) (PK : Df P w K mg base 1 "_law_pick" ["_law_script", "_law_k", "_law_many"] (spPick K)) :
    Df P w K mg base 2 "_law_word" ["_law_script", "_law_k", "_law_far", "_law_number", "_law_false"] (spWord K) := by
  refine df_mk T (fun _ _ _ _ _ _ us hl => match us, hl with | [_, _, _, _, _], _ => rfl) fun f fd F _ => ?_
  refine F.ok scWord (fun vs H Q E h => ?_) (fun cdv A outer s H vs Q E hr h => ?_)
  · obtain ⟨sv, k, far, n, fl, rfl, _⟩ := h
    rfl
  obtain ⟨sv, k, far, n, fl, rfl, hs, hk, hfar, q⟩ := h
  refine ⟨_, pss_cons (ps_set (i := 5) scWord.nd rfl (Or.inl rfl) (pe_ix ix_list (pe_lst (pa_cons pe_int (pa_cons (pv 2) pa_nil))) (callD PK hr (pa_cons (pv 0) (pa_cons (pv 1) (pa_cons pe_int pa_nil)))) (fun _ _ => rfl)))
    (pss_cons (ps_set (i := 6) scWord.nd rfl (Or.inl rfl) (pe_op op_sub (pv 3) (pe_op op_mulB (callD PK hr (pa_cons (pv 0) (pa_cons (pe_op op_add (pv 1) pe_int) (pa_cons pe_int pa_nil)))) (pv 5))))
    (pss_cons (ps_set (i := 7) scWord.nd rfl (Or.inl rfl) (pe_op op_add (pv 3) (pe_op op_mulB (callD PK hr (pa_cons (pv 0) (pa_cons (pe_op op_add (pv 1) pe_int) (pa_cons pe_int pa_nil)))) (pv 5))))
    (Evl.pss_cut (ps_if (pt_val (pv 4))
      (pss_cons (ps_set (i := 5) scWord.nd rfl (Or.inl rfl) (pe_op op_mulB (pe_op op_sub (callD PK hr (pa_cons (pv 0) (pa_cons (pe_op op_add (pv 1) pe_int) (pa_cons pe_int pa_nil)))) pe_int) (pv 5)))
      (pss_cons (ps_set (i := 6) scWord.nd rfl (Or.inl rfl) (pe_op op_add (pv 6) (pv 5)))
      (pss_one (ps_set (i := 7) scWord.nd rfl (Or.inl rfl) (pe_op op_add (pv 7) (pv 5)))))) pss_nil)
    (pss_cons (ps_set (i := 8) scWord.nd rfl (Or.inl rfl) (callD PK hr (pa_cons (pv 0) (pa_cons (pe_op op_add (pv 1) pe_int) (pa_cons pe_int pa_nil)))))
    (Evl.pss_cut (ps_if (PW.pt (pw_or (pt_cmpR op_eq (pv 8) pe_int (nomark _)) (pw_or1 (pt_cmpR op_eq (pv 8) pe_int (nomark _))))) (pss_one (ps_set (i := 6) scWord.nd rfl (Or.inl rfl) pe_non)) pss_nil)
    (Evl.pss_cut (ps_if (PW.pt (pw_or (pt_cmpR op_eq (pv 8) pe_int (nomark _)) (pw_or1 (pt_cmpR op_eq (pv 8) pe_int (nomark _))))) (pss_one (ps_set (i := 7) scWord.nd rfl (Or.inl rfl) pe_non)) pss_nil)
    (pss_one (ps_ret (pe_tup (pa_cons (pv 6) (pa_cons (pv 7) pa_nil))))))))))), ?_⟩
  refine u_set ?_
  refine ⟨_, rfl, (by show 2 ≤ sizeLine; decide), fun l nl => ?_⟩
  have s1 : Same H (upd H l (.lst [V.int 1, .int far])) := same_new nl _
  have hl : (upd H l (.lst [V.int 1, .int far])) l = some (.lst [V.int 1, .int far]) := upd_same
  generalize upd H l (.lst [V.int 1, .int far]) = H1 at *
  have hs1 := scr_mono s1 hs
  refine ⟨_, rfl, _, rfl, _, k, 2, rfl, hs1, by omega, by decide, fun r hr0 => ?_⟩
  obtain ⟨by0, hby, hl2⟩ : ∃ f : Int, 1 ≤ f ∧ [V.int 1, .int far][r]? = some (.int f) := by
    match r, hr0 with
    | 0, _ => exact ⟨1, by decide, rfl⟩
    | 1, _ => exact ⟨far, hfar, rfl⟩
  refine ⟨l, _, _, _, rfl, rfl, lst_at hl, at_of (j := r) rfl hl2, ?_⟩
  refine u_set ?_
  refine ⟨_, rfl, _, rfl, _, rfl, _, _, rfl, rfl, _, k + 1, 5, rfl, hs1, by omega, by decide, fun r1 h1 => ?_⟩
  refine ⟨_, rfl, _, _, rfl, rfl, ok_sm (by omega), _, _, rfl, rfl, ?_⟩
  refine u_set ?_
  refine ⟨_, rfl, _, rfl, _, rfl, _, _, rfl, rfl, _, k + 2, 5, rfl, hs1, by omega, by decide, fun r2 h2 => ?_⟩
  refine ⟨_, rfl, _, _, rfl, rfl, ok_sm (by omega), _, _, rfl, rfl, ?_⟩
  have p1 : 0 ≤ (r1 : Int) * by0 := Int.mul_nonneg (by omega) (by omega)
  have p2 : 0 ≤ (r2 : Int) * by0 := Int.mul_nonneg (by omega) (by omega)
  refine ⟨fun σ H2 => H2 = H1 ∧ ∃ b0 l0 h0 : Int, l0 ≤ h0 ∧ (fl = false → l0 ≤ n ∧ n ≤ h0) ∧ σ = [some sv, some (V.int (k : Int)), some (V.int far), some (V.int n), some (V.bl fl), some (V.int b0), some (V.int l0), some (V.int h0), none], ?_, ?_⟩
  · refine ⟨_, rfl, _, rfl, ?_⟩
    cases fl with
    | false => exact iteF ⟨rfl, _, _, _, by omega, fun _ => ⟨by omega, by omega⟩, rfl⟩
    | true =>
      refine iteT ?_
      refine ⟨_, rfl, _, rfl, _, _, rfl, rfl, _, k + 3, 41, rfl, hs1, by omega, by decide, fun r3 h3 => ?_⟩
      refine ⟨_, _, rfl, rfl, _, rfl, _, _, rfl, rfl, ?_, ?_⟩
      · exact .of_left (intBits_le_64 (by omega) (by omega))
      · refine ⟨_, rfl, _, rfl, _, _, rfl, rfl, _, rfl, _, rfl, _, _, rfl, rfl, rfl, _, _, _, ?_, fun z => (by cases z), rfl⟩
        omega
  rintro σ H2 ⟨rfl, b0, l0, h0, hlh, hin, rfl⟩
  refine u_set ?_
  refine ⟨_, rfl, _, rfl, _, _, rfl, rfl, _, k + 4, 9, rfl, hs1, by omega, by decide, fun r4 h4 => ?_⟩
  refine ⟨fun σ H3 => H3 = H2 ∧ ∃ lo : Option Int, (lo = none ∨ lo = some l0) ∧ σ = [some sv, some (V.int (k : Int)), some (V.int far), some (V.int n), some (V.bl fl), some (V.int b0), some (vO lo), some (V.int h0), some (V.int (r4 : Int))], ?_, ?_⟩
  · refine ⟨_, rfl, rfl, _, rfl, ?_⟩
    refine ite2 (fun c => ?_) (fun c => ?_)
    · exact iteT ⟨rfl, none, .inl rfl, rfl⟩
    · refine ⟨_, rfl, rfl, _, rfl, ?_⟩
      refine ite2 (fun c => ?_) (fun c => ?_)
      · exact ⟨rfl, none, .inl rfl, rfl⟩
      · exact ⟨rfl, some l0, .inr rfl, rfl⟩
  rintro σ H3 ⟨rfl, lo, hlo, rfl⟩
  refine ⟨fun σ H4 => H4 = H3 ∧ ∃ hi : Option Int, (hi = none ∨ hi = some h0) ∧ σ = [some sv, some (V.int (k : Int)), some (V.int far), some (V.int n), some (V.bl fl), some (V.int b0), some (vO lo), some (vO hi), some (V.int (r4 : Int))], ?_, ?_⟩
  · refine ⟨_, rfl, rfl, _, rfl, ?_⟩
    refine ite2 (fun c => ?_) (fun c => ?_)
    · exact iteT ⟨rfl, none, .inl rfl, rfl⟩
    · refine ⟨_, rfl, rfl, _, rfl, ?_⟩
      refine ite2 (fun c => ?_) (fun c => ?_)
      · exact ⟨rfl, none, .inl rfl, rfl⟩
      · exact ⟨rfl, some h0, .inr rfl, rfl⟩
  rintro σ H4 ⟨rfl, hi, hhi, rfl⟩
  refine ⟨_, rfl, _, rfl, (by show 2 ≤ sizeLine; decide), fun p np => ?_⟩
  refine q (lo, hi) p _ (fun l u e1 e2 => ?_) (fun z => ?_) (s1.trans (same_new np _)) (s1.free np) upd_same
  · have e1 : lo = some l := e1
    have e2 : hi = some u := e2
    rcases hlo with z | z
    · rw [z] at e1; cases e1
    · rcases hhi with y | y
      · rw [y] at e2; cases e2
      · rw [z] at e1
        rw [y] at e2
        cases e1
        cases e2
        exact hlh
  · obtain ⟨h1, h2⟩ := hin z
    refine ⟨?_, ?_⟩
    · rcases hlo with z | z
      · rw [z]; trivial
      · rw [z]; exact h1
    · rcases hhi with z | z
      · rw [z]; trivial
      · rw [z]; exact h2
def spCourse (K : PySem.W.Frag) : Sp := fun vs H Q _ => ∃ (sv hv : V) (b : Bd) (far : Int), vs = [sv, hv] ∧ Scr K H sv ∧ ShapeAt H hv b far ∧ BOk b ∧
  ∀ (c : List Int) p H', Goes b [] c → Same H H' → H p = none → H' p = some (.lst (c.map V.int)) → Q (.ref p) H'
theorem df_course (T : Tx K mg "_law_course" sCourse) (B : Bi mg) (PK : Df P w K mg base 1 "_law_pick" ["_law_script", "_law_k", "_law_many"] (spPick K)) (WD : Df P w K mg base 2 "_law_wide" ["_law_script", "_law_k", "_law_many"] (spWide K)) :
    Df P w K mg base 3 "_law_course" ["_law_script", "_law_shape_here"] (spCourse K) := by
  refine df_mk T (fun _ _ _ _ _ _ us hl => match us, hl with | [_, _], _ => rfl) fun f fd F _ => ?_
  refine F.ok scCourse (fun vs H Q E h => ?_) (fun cdv A outer s H vs Q E hr h => ?_)
  · obtain ⟨sv, hv, b, far, rfl, _⟩ := h
    rfl
  obtain ⟨sv, hv, b, far, rfl, hs, ⟨ha, rfl, hsh⟩, ok, q⟩ := h
  have hr1 : Room 1 _ := hr.mono (by decide)
  refine ⟨_, pss_cons (ps_set (i := 2) scCourse.nd rfl (Or.inl rfl) (pe_ix ix_list (pe_lst (pa_cons pe_int (pa_cons pe_int (pa_cons (pe_op op_pow pe_int pe_int) (pa_cons (pe_op op_mulB (pe_op op_pow pe_int pe_int) (pe_op op_pow pe_int pe_int)) pa_nil))))) (callD PK hr1 (pa_cons (pv 0) (pa_cons pe_int (pa_cons pe_int pa_nil)))) (fun _ _ => rfl)))
    (pss_cons (ps_set (i := 3) scCourse.nd rfl (Or.inl rfl) (pe_op op_sub (callD WD hr (pa_cons (pv 0) (pa_cons pe_int (pa_cons (pe_op op_add (pe_op op_mulB pe_int (pv 2)) pe_int) pa_nil)))) (pv 2)))
    (pss_cons (ps_set (i := 4) scCourse.nd rfl (Or.inl rfl) (pe_lst (pa_cons (pv 3) pa_nil)))
    (pss_cons (ps_for PassesOwn.never rfl (pi_range1 rfl B.range (pa_cons (pe_op op_sub (pe_ix ix_list (pv 1) pe_int (fun _ _ => rfl)) pe_int) pa_nil)) (pg_name (i := 5) scCourse.nd rfl (Or.inl rfl))
      (pss_cons (ps_set (i := 3) scCourse.nd rfl (Or.inl rfl) (pe_op op_sub (pe_op op_add (pv 3) (callD WD hr (pa_cons (pv 0) (pa_cons (pe_op op_add pe_int (pv 5)) (pa_cons (pe_op op_add (pe_op op_add (pe_ix ix_list (pv 1) pe_int (fun _ _ => rfl)) (pe_ix ix_list (pv 1) pe_int (fun _ _ => rfl))) pe_int) pa_nil))))) (pe_ix ix_list (pv 1) pe_int (fun _ _ => rfl))))
      (pss_one (ps_expr (pe_bm PySem.F.plainAttrs_list PySem.F.slot_list_append PySem.F.type_list_append mt_append (pv 4) (pa_cons (pv 3) pa_nil))))))
    (pss_one (ps_ret (pv 4)))))), ?_⟩
  have hsh' : H ha = some (.lst (shapeV b far)) := hsh
  refine u_set ?_
  refine ⟨_, _, rfl, rfl, ⟨by decide, by decide, by decide⟩, _, _, rfl, rfl, ⟨by decide, by decide, by decide⟩, _, _, rfl, rfl, ⟨by decide, by decide, by decide⟩, _, _, rfl, rfl, ok_ten, (by show 4 ≤ sizeLine; decide), fun z nz => ?_⟩
  have s1 : Same H (upd H z (.lst [V.int 9, .int 1000, .int ((10 : Int) ^ (18 : Int).toNat), .int ((10 : Int) ^ (60 : Int).toNat * (10 : Int) ^ (60 : Int).toNat)])) := same_new nz _
  have hz : (upd H z (.lst [V.int 9, .int 1000, .int ((10 : Int) ^ (18 : Int).toNat), .int ((10 : Int) ^ (60 : Int).toNat * (10 : Int) ^ (60 : Int).toNat)])) z = some (.lst [V.int 9, .int 1000, .int ((10 : Int) ^ (18 : Int).toNat), .int ((10 : Int) ^ (60 : Int).toNat * (10 : Int) ^ (60 : Int).toNat)]) := upd_same
  generalize upd H z (.lst [V.int 9, .int 1000, .int ((10 : Int) ^ (18 : Int).toNat), .int ((10 : Int) ^ (60 : Int).toNat * (10 : Int) ^ (60 : Int).toNat)]) = H1 at *
  have hs1 := scr_mono s1 hs
  refine ⟨_, rfl, _, 9, 4, rfl, hs1, by decide, by decide, fun r hr0 => ?_⟩
  obtain ⟨size, hsz, hz2⟩ := size_at ((10 : Int) ^ (18 : Int).toNat) ((10 : Int) ^ (60 : Int).toNat * (10 : Int) ^ (60 : Int).toNat) (by decide) (by decide) hr0
  refine ⟨z, _, _, _, rfl, rfl, lst_at hz, at_of (j := r) rfl hz2, ?_⟩
  refine u_set ?_
  refine ⟨_, rfl, _, rfl, _, _, rfl, rfl, .of_left (intBits_le_64 (by decide) (by decide)), _, _, rfl, rfl, _, 10, 2 * size + 1, rfl, hs1, by decide, by omega, fun x hx0 hx => ?_⟩
  refine ⟨_, rfl, _, _, rfl, rfl, ?_⟩
  refine u_set ?_
  refine ⟨_, rfl, (by show 1 ≤ sizeLine; decide), fun l nl => ?_⟩
  have nlH : H l = none := s1.free nl
  have s2 := s1.trans (same_new nl (.lst [V.int (x - size)]))
  obtain ⟨o1, o2, o3, o4, o5, o6, o7⟩ := ok
  refine ⟨_, rfl, ha, _, _, _, rfl, rfl, lst_at (s2 _ _ hsh), at_of (j := 1) rfl rfl, _, _, rfl, rfl, _, rfl, by omega, by omega, ?_⟩
  have en : ((b.turns : Int) - 1).toNat = b.turns - 1 := by omega
  refine for_range (lo := 0) (n := ((b.turns : Int) - 1).toNat) (fun i σ H' => ∃ (c : List Int) (n : Int) (x5 : Option V), σ = [some sv, some (.ref ha), some (.int size), some (.int n), some (.ref l), x5] ∧ Same H H' ∧ H' l = some (.lst (c.map V.int)) ∧ c.length = i + 1 ∧ cAt c i = n ∧ ∀ k, k < i → -b.down ≤ cAt c (k + 1) - cAt c k ∧ cAt c (k + 1) - cAt c k ≤ b.up)
    ⟨[x - size], _, none, rfl, s2, upd_same, rfl, rfl, fun k hk => by omega⟩ ?_ ?_
  · rintro i σ H' hi ⟨c, n, x5, rfl, s3, hl, hcl, hn, hst⟩
    refine u_set ?_
    refine ⟨_, rfl, _, rfl, _, rfl, _, _, rfl, rfl, _, rfl, ha, _, _, _, rfl, rfl, lst_at (s3 _ _ hsh), at_of (j := 2) rfl rfl, _, rfl, ha, _, _, _, rfl, rfl, lst_at (s3 _ _ hsh), at_of (j := 3) rfl rfl, _, _, rfl, rfl, _, _, rfl, rfl, ?_⟩
    refine ⟨_, 11 + i, b.up + b.down + 1, ?_, scr_mono s3 hs, by omega, by omega, fun r h0 h1 => ?_⟩
    · show [sv, V.int (11 + (0 + (i : Int))), V.int (b.up + b.down + 1)] = _
      rw [show (11 : Int) + (0 + (i : Int)) = ((11 + i : Nat) : Int) by omega]
    refine ⟨_, _, rfl, rfl, _, rfl, ha, _, _, _, rfl, rfl, lst_at (s3 _ _ hsh), at_of (j := 3) rfl rfl, _, _, rfl, rfl, ?_⟩
    refine u_drop ?_
    refine ⟨_, rfl, .inl ⟨rfl, _, lst_at hl⟩, _, rfl, l, _, _, rfl, rfl, hl, len_lt (by rw [List.length_map]; omega), ?_⟩
    refine ⟨c ++ [n + r - b.down], n + r - b.down, _, rfl, same_over s3 nlH _, ?_, by rw [List.length_append, List.length_singleton, hcl], ?_, fun k hk => ?_⟩
    · rw [upd_same, List.map_append]
      rfl
    · rw [← hcl]
      exact cAt_last
    · by_cases h : k < i
      · rw [cAt_left (by omega), cAt_left (by omega)]
        exact hst k h
      · obtain rfl : k = i := by omega
        have a1 : cAt (c ++ [n + r - b.down]) (k + 1) = n + r - b.down := by
          rw [← hcl]
          exact cAt_last
        have a2 : cAt (c ++ [n + r - b.down]) k = n := by rw [cAt_left (by omega), hn]
        rw [a1, a2]
        omega
  · rintro σ H' ⟨c, n, x5, rfl, s3, hl, hcl, hn, hst⟩
    refine ⟨_, rfl, ?_⟩
    refine q c l H' ⟨by omega, fun k hk => hst k (by omega), fun p hp => by cases hp⟩ s3 nlH hl
end
end Gz
namespace Gz
open PySem PySem.Spec PyProof.Rows L2
theorem putW_new {ws : List Wd} {k : Nat × Nat} {s : Sn} (h : ∀ x ∈ ws, x.1 ≠ k) : putW ws k s = ws ++ [(k, s)] := by
  unfold putW
  rw [if_neg]
  intro z
  obtain ⟨x, hx, e⟩ := List.any_eq_true.mp z
  exact h x hx (of_decide_eq_true e)
theorem take_ne {sw : List Wd} (nd : (sw.map (·.1)).Nodup) {i : Nat} {x : Wd} (hx : sw[i]? = some x) : ∀ y ∈ sw.take i, y.1 ≠ x.1 := fun y hy e => by
  obtain ⟨hi, ex⟩ := List.getElem?_eq_some_iff.mp hx
  obtain ⟨j, hj, ey⟩ := List.getElem_of_mem hy
  rw [List.length_take] at hj
  rw [List.getElem_take] at ey
  have p := List.pairwise_iff_getElem.mp (List.pairwise_map.mp nd) j i (by omega) hi (by omega)
  rw [ey, ex] at p
  exact p e
theorem nodup_perm {a b : List Wd} (p : a.Perm b) (h : (b.map (·.1)).Nodup) : (a.map (·.1)).Nodup := (p.map _).nodup_iff.mpr h
theorem paired_rev {α β : Type} {F : α → β → Prop} : ∀ {vs : List α} {xs : List β}, Paired F vs xs → Paired F vs.reverse xs.reverse
  | _, _, .nil => .nil
  | _, _, .cons r t => by
    rw [List.reverse_cons, List.reverse_cons]
    exact paired_snoc (paired_rev t) r
theorem upd_twice {H : Hp} {a : Addr} {u v : HO} : upd (upd H a u) a v = upd H a v := by
  funext b
  by_cases h : b = a
  · subst h
    rw [upd_same, upd_same]
  · rw [upd_ne h, upd_ne h, upd_ne h]
theorem ints_at {c : List Int} {k : Nat} (h : k < c.length) : (c.map V.int)[k]? = some (.int (cAt c k)) := by
  rw [List.getElem?_map, List.getElem?_eq_getElem h]
  unfold cAt
  rw [List.getD_eq_getElem?_getD, List.getElem?_eq_getElem h]
  rfl
section
variable {P : Program} {w : World} {K : PySem.W.Frag} {mg : Str → Option Value} {base : Heap} {C : Addr}
def WordsOk (b : Bd) (ws : List Wd) : Prop := ∀ x ∈ ws, x.1.1 < b.eyes ∧ x.1.2 < b.turns ∧ Full x.2
def spBoard (K : PySem.W.Frag) (C : Addr) : Sp := fun vs H Q _ => ∃ (sv hv : V) (d0 : Addr) (b : Bd) (far : Int) (ws : List Wd), vs = [sv, hv, .ref d0] ∧ Scr K H sv ∧ ShapeAt H hv b far ∧ BOk b ∧ TabAt H d0 ws ∧ WordsOk b ws ∧ ws.length ≤ 100 ∧
  ∀ (ws' : List Wd) a d H', ws'.Perm ws → BoardD C b a d H' ws' → Same H H' → H a = none → H d = none → Q (.ref a) H'
theorem df_board (T : Tx K mg "_law_board" sBoard) (B : Bi mg) (BC : BT K mg C) (PK : Df P w K mg base 1 "_law_pick" ["_law_script", "_law_k", "_law_many"] (spPick K))
    (IN : Di P w K mg base C 1 ["self", "eyes", "turns", "up", "down", "most"] (spInit C)) (TE : Dm P w K mg base C 2 "tell" ["self", "eye", "turn", "lo", "hi"] (spTell C)) :
    Df P w K mg base 3 "_law_board" ["_law_script", "_law_shape_here", "_law_told"] (spBoard K C) := by
  refine df_mk T (fun _ _ _ _ _ _ us hl => match us, hl with | [_, _, _], _ => rfl) fun f fd F _ => ?_
  obtain ⟨fI, fdI, FI, mI, bI⟩ := IN
  obtain ⟨fT, fdT, FT, mT, bT⟩ := TE
  refine F.ok scBoard (fun vs H Q E h => ?_) (fun cdv A outer s H vs Q E hr h => ?_)
  · obtain ⟨sv, hv, d0, b, far, ws, rfl, _⟩ := h
    rfl
  obtain ⟨sv, hv, d0, b, far, ws, rfl, hs, ⟨ha, rfl, hsh⟩, ok, htab, wok, hlen, q⟩ := h
  have hr1 : Room 1 _ := hr.mono (by decide)
  have hu := hu_of hr
  refine ⟨_, pss_cons (ps_set (i := 3) scBoard.nd rfl (Or.inl rfl) (pe_make mI FI hr (by rfl) BC.mgC bI .nil pass0 (pa_cons (pe_ix ix_list (pv 1) pe_int (fun _ _ => rfl)) (pa_cons (pe_ix ix_list (pv 1) pe_int (fun _ _ => rfl)) (pa_cons (pe_ix ix_list (pv 1) pe_int (fun _ _ => rfl)) (pa_cons (pe_ix ix_list (pv 1) pe_int (fun _ _ => rfl)) (pa_cons (pe_ix ix_list (pv 1) pe_int (fun _ _ => rfl)) pa_nil)))))))
    (pss_cons (ps_set (i := 4) scBoard.nd rfl (Or.inl rfl) (pe_callTy (call_list_dT rfl) (by rfl) B.list (by decide +kernel) (pa_cons (pv 2) pa_nil)))
    (Evl.pss_cut (ps_if (pt_cmpR op_eq (callD PK hr1 (pa_cons (pv 0) (pa_cons pe_int (pa_cons pe_int pa_nil)))) pe_int (nomark _))
      (pss_one (ps_expr (pe_bm0 PySem.F.plainAttrs_list PySem.F.slot_list_reverse PySem.F.type_list_reverse mt_reverse (pv 4)))) pss_nil)
    (pss_cons (ps_for PassesOwn.never rfl (pi_list (pv 4)) (pg_tup rfl (pgs_cons (pg_name (i := 5) scBoard.nd rfl (Or.inl rfl)) (pgs_cons (pg_name (i := 6) scBoard.nd rfl (Or.inl rfl)) pgs_nil)))
      (pss_one (ps_expr (pe_meth (pv 3) BC.cl mT FT hr bT .nil pass0 (pa_cons (pv 5) (pa_cons (pv 6)
        (pa_cons (pe_ix ix_tup (pe_dget hu (pv 2) (pe_tup (pa_cons (pv 5) (pa_cons (pv 6) pa_nil))) (fun _ _ => rfl)) pe_int (fun _ _ => rfl))
        (pa_cons (pe_ix ix_tup (pe_dget hu (pv 2) (pe_tup (pa_cons (pv 5) (pa_cons (pv 6) pa_nil))) (fun _ _ => rfl)) pe_int (fun _ _ => rfl)) pa_nil))))))))
    (pss_one (ps_ret (pv 3)))))), ?_⟩
  obtain ⟨kvs, hd, pt, nd⟩ := htab
  refine ⟨_, rfl, ha, _, _, _, rfl, rfl, lst_at hsh, at_of (j := 0) rfl rfl, _, rfl, ha, _, _, _, rfl, rfl, lst_at hsh, at_of (j := 1) rfl rfl, _, rfl, ha, _, _, _, rfl, rfl, lst_at hsh, at_of (j := 2) rfl rfl, _, rfl, ha, _, _, _, rfl, rfl, lst_at hsh, at_of (j := 3) rfl rfl, _, rfl, ha, _, _, _, rfl, rfl, lst_at hsh, at_of (j := 4) rfl rfl, ?_⟩
  intro a dx na ndx nadx
  refine ⟨a, dx, b, rfl, ok, upd_same, fun H1 d ndd h1 h2 fr0 => ⟨rfl, ?_⟩⟩
  have s1 : Same H H1 := fun z o e => fr0 z o (by rw [upd_ne (ne_of_none e na), upd_ne (ne_of_none e ndx)]; exact e) (ne_of_none e na)
  have nda : d ≠ a := fun e => by
    rw [e, upd_same] at ndd
    cases ndd
  have nddx : d ≠ dx := fun e => by
    rw [upd_ne nda, e, upd_same] at ndd
    cases ndd
  have ndH : H d = none := by
    rw [upd_ne nda, upd_ne nddx] at ndd
    exact ndd
  refine ⟨_, rfl, d0, kvs, rfl, .inl (s1 _ _ hd), fun l bs nl ik => ?_⟩
  have pt1 := tell_mono s1 pt
  have pk := keys_told pt1 ik
  have nld : l ≠ d := (ne_of_none h2 nl).symm
  have nd0 : d0 ≠ d := ne_of_none hd ndH
  refine ⟨fun σ H' => ∃ ys sw, σ = [some sv, some (.ref ha), some (.ref d0), some (.ref a), some (.ref l), none, none] ∧ H' = upd H1 l (.lst ys) ∧ sw.Perm ws ∧ Paired (KeyW H1) ys sw, ?_, ?_⟩
  · refine ⟨_, rfl, _, 22, 2, rfl, scr_mono (s1.trans (same_new nl _)) hs, by decide, by decide, fun r _ => ?_⟩
    refine ⟨rfl, _, rfl, ?_⟩
    refine ite2 (fun c => ?_) (fun c => ?_)
    · refine ⟨_, rfl, .inl ⟨rfl, _, lst_at upd_same⟩, l, _, rfl, rfl, upd_same, ?_⟩
      exact ⟨_, ws.reverse, rfl, upd_twice, List.reverse_perm ws, paired_rev pk⟩
    · exact ⟨_, ws, rfl, rfl, .refl _, pk⟩
  rintro σ H2 ⟨ys, sw, rfl, rfl, hsw, psw⟩
  have s2 : Same H1 (upd H1 l (.lst ys)) := same_new nl _
  have nds := nodup_perm hsw nd
  have hsl := paired_len psw
  refine ⟨_, rfl, l, rfl, ⟨_, lst_at upd_same⟩, for_list (K := K) (a := l) (xs := ys) (fun i σ H' => ∃ x5 x6, σ = [some sv, some (.ref ha), some (.ref d0), some (.ref a), some (.ref l), x5, x6] ∧ (∀ x o, (upd H1 l (.lst ys)) x = some o → x ≠ d → H' x = some o) ∧ BoardD C b a d H' (sw.take i))
    ⟨none, none, rfl, fun x o e _ => e, dx, bfs b d, s2 _ _ h1, bfs_flds b d, [], s2 _ _ h2, .nil, List.nodup_nil⟩ (fun i σ H' _ ⟨_, _, _, fr, _⟩ => lst_at (fr _ _ upd_same nld)) ?_ ?_⟩
  · rintro i v σ H' hv ⟨x5, x6, rfl, fr, bd⟩
    obtain ⟨y, e1, k, rfl, hk⟩ := paired_atV psw hv
    have hym : y ∈ ws := hsw.mem_iff.mp (List.mem_of_getElem? e1)
    have hw := wok y hym
    have hne := take_ne nds e1
    have et : sw.take (i + 1) = sw.take i ++ [y] := by rw [List.take_add_one, e1]; rfl
    have nkd : k ≠ d := ne_of hk h2 (by intro z; cases z)
    have hk' := fr _ _ (s2 _ _ hk) nkd
    obtain ⟨⟨e, t⟩, sn⟩ := y
    obtain ⟨v, hv1, sa, rfl, hv2⟩ := valV_told pt1 hym nd
    have nsa : sa ≠ d := ne_of hv2 h2 (by intro z; cases z)
    have hsa := fr _ _ (s2 _ _ hv2) nsa
    have hd' := fr _ _ (s2 _ _ (s1 _ _ hd)) nd0
    obtain ⟨dx', fs, hba, fl, tb⟩ := id bd
    refine ⟨k, _, rfl, tup_at hk', rfl, _, _, rfl, _, _, rfl, rfl, ?_⟩
    refine u_drop ?_
    refine ⟨_, rfl, a, dx', fs, rfl, hba, fl.nTell, _, rfl, _, rfl, _, rfl, _, rfl, _, rfl, (by show 2 ≤ sizeLine; decide), fun o1 no1 => ?_⟩
    have t1 := same_new no1 (.tup [V.int (e : Int), .int (t : Int)])
    refine ⟨d0, .ref sa, rfl, ?_, sa, _, _, _, rfl, rfl, tup_at (t1 _ _ hsa), rfl, ?_⟩
    · have g := DGet.t (k := keyOf (e, t)) (t1 _ _ hd') (b := o1) upd_same
      rw [hv1] at g
      exact g
    refine ⟨_, rfl, _, rfl, _, rfl, (by show 2 ≤ sizeLine; decide), fun o2 no2 => ?_⟩
    have t2 := same_new no2 (.tup [V.int (e : Int), .int (t : Int)])
    have t12 := t1.trans t2
    refine ⟨d0, .ref sa, rfl, ?_, sa, _, _, _, rfl, rfl, tup_at (t12 _ _ hsa), rfl, ?_⟩
    · have g := DGet.t (k := keyOf (e, t)) (t12 _ _ hd') (b := o2) upd_same
      rw [hv1] at g
      exact g
    refine ⟨a, d, b, sw.take i, e, t, sn, rfl, ⟨dx', fs, t12 _ _ hba, fl, tab_mono t12 tb⟩, hw.1, hw.2.1, hw.2.2, by rw [List.length_take, hsw.length_eq]; omega, fun H3 b3 fr3 => ?_⟩
    refine ⟨_, _, rfl, fun x o ex hx => fr3 x o (t12 _ _ (fr x o ex hx)) hx, ?_⟩
    rw [putW_new hne, ← et] at b3
    exact b3
  · rintro σ H' ⟨x5, x6, rfl, fr, bd⟩
    rw [hsl, List.take_length] at bd
    exact ⟨_, rfl, q sw a d H' hsw bd (fun z o e => fr _ _ (s2 _ _ (s1 _ _ e)) (ne_of_none e ndH)) na ndH⟩
def spLLiars : Sp := fun vs H Q _ => ∃ (d0 : Addr) (cv : V) (ws : List Wd) (c F : List Int), vs = [.ref d0, cv] ∧ TabAt H d0 ws ∧ LstAt IntAt H cv c ∧ (∀ x ∈ ws, x.1.2 < c.length) ∧ (∀ x ∈ ws, ¬ In x.2 (cAt c x.1.2) → (x.1.1 : Int) ∈ F) ∧ F.length ≤ 60 ∧
  ∀ (ns : List Int) p H', ns.length ≤ F.length → Same H H' → H p = none → H' p = some (.lst (ns.map V.int)) → Q (.ref p) H'
theorem df_lliars (T : Tx K mg "_law_liars" sLLiars) (B : Bi mg) (IN : Df P w K mg base 1 "_law_in" ["_law_span", "_law_number"] spIn) : Df P w K mg base 2 "_law_liars" ["_law_told", "_law_course_here"] spLLiars := by
  refine df_mk T (fun _ _ _ _ _ _ us hl => match us, hl with | [_, _], _ => rfl) fun f fd F _ => ?_
  refine F.ok scLLiars (fun vs H Q E h => ?_) (fun cdv A outer s H vs Q E hr h => ?_)
  · obtain ⟨d0, cv, ws, c, F, rfl, _⟩ := h
    rfl
  obtain ⟨d0, cv, ws, c, F, rfl, ⟨kvs, hd, pt, nd⟩, ⟨ca, cvs, rfl, hc, pc⟩, htn, hF, hFl, q⟩ := h
  have ec := paired_ints pc
  subst ec
  have hu := hu_of hr
  refine ⟨_, pss_cons (ps_set (i := 2) scLLiars.nd rfl (Or.inl rfl) (pe_lst pa_nil))
    (pss_cons (ps_lock (ps_for PassesOwn.never rfl (pi_keys (pv 0)) (pg_tup rfl (pgs_cons (pg_name (i := 3) scLLiars.nd rfl (Or.inl rfl)) (pgs_cons (pg_name (i := 4) scLLiars.nd rfl (Or.inl rfl)) pgs_nil)))
      (pss_one (ps_if (PW.pt (pw_and (pt_not (pt_val (callD IN hr (pa_cons (pe_dget hu (pv 0) (pe_tup (pa_cons (pv 3) (pa_cons (pv 4) pa_nil))) (fun _ _ => rfl)) (pa_cons (pe_ix ix_list (pv 1) (pv 4) (fun _ _ => rfl)) pa_nil))))) (pw_and1 (pt_cmpR op_notIn_seq (pv 3) (pv 2) (by rfl)))))
        (pss_one (ps_expr (pe_bm PySem.F.plainAttrs_list PySem.F.slot_list_append PySem.F.type_list_append mt_append (pv 2) (pa_cons (pv 3) pa_nil)))) pss_nil))))
    (pss_one (ps_ret (pv 2)))), ?_⟩
  refine ⟨Nat.zero_le _, fun l nl => ?_⟩
  have s0 := same_new nl (.lst [])
  have nld : l ≠ d0 := (ne_of_none hd nl).symm
  refine ⟨d0, .dT kvs, s0 _ _ hd, trivial, fun od => ?_⟩
  refine ⟨_, rfl, d0, od, rfl, .inr ⟨kvs, upd_same, ?_⟩⟩
  refine for_it walk_keysT (fun i σ H' => ∃ x3 x4 ns, σ = [some (.ref d0), some (.ref ca), some (.ref l), x3, x4] ∧ (∀ x o, H x = some o → x ≠ d0 → H' x = some o) ∧ H' d0 = some (.frz od (.dT kvs)) ∧ H' l = some (.lst (ns.map V.int)) ∧ ns.Nodup ∧ ∀ n ∈ ns, n ∈ F)
    ⟨none, none, [], rfl, fun x o e hx => by rw [upd_ne hx]; exact s0 _ _ e, upd_same, by rw [upd_ne nld]; exact upd_same, List.nodup_nil, fun _ h => by cases h⟩ (fun i σ H' _ ⟨_, _, _, _, _, h, _⟩ => h) ?_ ?_
  · rintro i x σ H1 H2 hi ⟨x3, x4, ns, rfl, fr, hd1, hl1, nnd, nm⟩ ⟨rfl, k, v, kq, hkv, rfl, hq⟩
    obtain ⟨y, e1, hk1, hsp⟩ := paired_atV pt hkv
    have hk1 : k = keyOf y.1 := hk1
    subst hk1
    have hym : y ∈ ws := List.mem_of_getElem? e1
    have ht := htn y hym
    have hFy := hF y hym
    obtain ⟨⟨e, t⟩, sn⟩ := y
    obtain ⟨v', hv1, sa, rfl, hv2⟩ := valV_told pt hym nd
    have hsa := fr _ _ hv2 (ne_of hv2 hd (by intro z; cases z))
    have hca := fr _ _ hc (ne_of hc hd (by intro z; cases z))
    have hnl : ns.length ≤ F.length := nodup_sub nnd nm
    refine ⟨kq, _, rfl, tup_at hq, rfl, _, _, rfl, _, _, rfl, rfl, ?_⟩
    refine ⟨_, rfl, _, rfl, _, rfl, (by show 2 ≤ sizeLine; decide), fun o no => ?_⟩
    have t1 := same_new no (.tup [V.int (e : Int), .int (t : Int)])
    have hfr : ∀ x u, H x = some u → x ≠ d0 → (upd H2 o (.tup [V.int (e : Int), .int (t : Int)])) x = some u := fun x u ex hx => t1 _ _ (fr x u ex hx)
    refine ⟨d0, .ref sa, rfl, .inr ⟨kvs, keyOf (e, t), o, .inr ⟨od, t1 _ _ hd1⟩, rfl, upd_same, hv1.symm⟩, _, rfl, _, rfl, ca, _, _, _, rfl, rfl, lst_at (t1 _ _ hca), at_of (j := t) rfl (ints_at ht), _, sn, cAt c t, rfl, ⟨sa, rfl, t1 _ _ hsa⟩, _, rfl, ?_⟩
    by_cases hin : In sn (cAt c t)
    · rw [decide_eq_true hin]
      refine iteF (iteF ?_)
      exact ⟨_, _, ns, rfl, hfr, t1 _ _ hd1, t1 _ _ hl1, nnd, nm⟩
    · rw [decide_eq_false hin]
      refine iteT ⟨_, rfl, _, rfl, l, _, rfl, .inl (lst_at (t1 _ _ hl1)), rfl, all_flat ns, _, rfl, ?_⟩
      show if (if true = true then !inV (V.int (e : Int)) (ns.map V.int) else inV (V.int (e : Int)) (ns.map V.int)) = true then _ else _
      rw [if_pos rfl, inV_int]
      cases ec : ns.contains (e : Int) with
      | true =>
        refine iteF ?_
        exact ⟨_, _, ns, rfl, hfr, t1 _ _ hd1, t1 _ _ hl1, nnd, nm⟩
      | false =>
        refine iteT ?_
        refine u_drop ?_
        refine ⟨_, rfl, .inl ⟨rfl, _, lst_at (t1 _ _ hl1)⟩, _, rfl, l, _, _, rfl, rfl, t1 _ _ hl1, len_lt (by rw [List.length_map]; omega), ?_⟩
        refine ⟨_, _, ns ++ [(e : Int)], rfl, fun x u ex hx => ?_, ?_, ?_, ?_, ?_⟩
        · rw [upd_ne (ne_of_none ex nl)]
          exact hfr x u ex hx
        · rw [upd_ne nld.symm]
          exact t1 _ _ hd1
        · rw [upd_same, List.map_append]
          rfl
        · refine List.nodup_append.mpr ⟨nnd, by simp, ?_⟩
          intro a ha b hb eab
          have hb : b = (e : Int) := by simpa using hb
          rw [eab, hb] at ha
          have := List.contains_iff_mem.mpr ha
          rw [ec] at this
          cases this
        · intro n hn
          rcases List.mem_append.mp hn with z | z
          · exact nm n z
          · have z : n = (e : Int) := by simpa using z
            rw [z]
            exact hFy hin
  · rintro σ H1 ⟨x3, x4, ns, rfl, fr, hd1, hl1, nnd, nm⟩
    refine ⟨hd1, _, rfl, ?_⟩
    refine q ns l _ (nodup_sub nnd nm) (fun x o ex => ?_) nl (by rw [upd_ne nld]; exact hl1)
    by_cases hx : x = d0
    · subst hx
      rw [upd_same, ← ex, hd]
    · rw [upd_ne hx]
      exact fr x o ex hx
def MetC (cl : List Pt) (c : List Int) : Prop := ∀ p ∈ cl, match p.1 with
    | .at => In p.2.2 (cAt c p.2.1)
    | .step => In p.2.2 (cAt c (p.2.1 + 1) - cAt c p.2.1)
def spMet : Sp := fun vs H Q _ => ∃ (cv kv : V) (c : List Int) (cl : List Pt), vs = [cv, kv] ∧ LstAt IntAt H cv c ∧ LstAt PartAt H kv cl ∧ (∀ p ∈ cl, PtOk c.length p) ∧ MetC cl c ∧ Q (.bl true) H
theorem df_met (T : Tx K mg "_law_met" sMet) (IN : Df P w K mg base 1 "_law_in" ["_law_span", "_law_number"] spIn) : Df P w K mg base 2 "_law_met" ["_law_course_here", "_law_claim"] spMet := by
  refine df_mk T (fun _ _ _ _ _ _ us hl => match us, hl with | [_, _], _ => rfl) fun f fd F _ => ?_
  refine F.ok scMet (fun vs H Q E h => ?_) (fun cdv A outer s H vs Q E hr h => ?_)
  · obtain ⟨cv, kv, c, cl, rfl, _⟩ := h
    rfl
  obtain ⟨cv, kv, c, cl, rfl, ⟨ca, cvs, rfl, hc, pc⟩, ⟨la, lvs, rfl, hl, pl⟩, hok, met, q⟩ := h
  have ec := paired_ints pc
  subst ec
  refine ⟨_, pss_cons (ps_for PassesOwn.never rfl (pi_list (pv 1)) (pg_tup rfl (pgs_cons (pg_name (i := 2) scMet.nd rfl (Or.inl rfl)) (pgs_cons (pg_name (i := 3) scMet.nd rfl (Or.inl rfl)) (pgs_cons (pg_name (i := 4) scMet.nd rfl (Or.inl rfl)) pgs_nil))))
      (pss_cons (ps_set (i := 5) scMet.nd rfl (Or.inl rfl) (pe_ix ix_list (pv 0) (pv 3) (fun _ _ => rfl)))
      (Evl.pss_cut (ps_if (pt_cmpR op_eq (pv 2) pe_str (nomark _)) (pss_one (ps_set (i := 5) scMet.nd rfl (Or.inl rfl) (pe_op op_sub (pe_ix ix_list (pv 0) (pe_op op_add (pv 3) pe_int) (fun _ _ => rfl)) (pv 5)))) pss_nil)
      (pss_one (ps_if (pt_not (pt_val (callD IN hr (pa_cons (pv 4) (pa_cons (pv 5) pa_nil))))) (pss_one (ps_ret pe_bl)) pss_nil)))))
    (pss_one (ps_ret pe_bl)), ?_⟩
  refine ⟨_, rfl, la, rfl, ⟨_, lst_at hl⟩, for_list (K := K) (a := la) (xs := lvs) (fun i σ H' => ∃ x2 x3 x4 x5, σ = [some (.ref ca), some (.ref la), x2, x3, x4, x5] ∧ H' = H) ⟨none, none, none, none, rfl, rfl⟩
    (fun i σ H' _ ⟨_, _, _, _, _, e⟩ => lst_at (by rw [e]; exact hl)) ?_ ?_⟩
  · rintro i x σ H' hx ⟨x2, x3, x4, x5, rfl, rfl⟩
    obtain ⟨p, e1, pa, pb, rfl, h1, h2⟩ := paired_atV pl hx
    have hpm := List.mem_of_getElem? e1
    have hp := hok p hpm
    have hm := met p hpm
    obtain ⟨k, t, sn⟩ := p
    refine ⟨pa, _, rfl, tup_at h1, rfl, _, _, rfl, _, _, rfl, _, _, rfl, rfl, ?_⟩
    have ht : t < c.length := by
      cases k with
      | «at» => exact hp
      | step => exact Nat.lt_of_succ_lt hp
    refine ⟨_, rfl, _, rfl, ca, _, _, _, rfl, rfl, lst_at hc, at_of (j := t) rfl (ints_at ht), ?_⟩
    refine ⟨fun σ H2 => H2 = H' ∧ ∃ n : Int, In sn n ∧ σ = [some (.ref ca), some (.ref la), some (.str (kdS k)), some (.int (t : Int)), some (.ref pb), some (.int n)], ?_, ?_⟩
    · refine ⟨_, rfl, rfl, _, rfl, ?_⟩
      rw [kd_step]
      cases k with
      | step =>
        refine iteT ?_
        have hp : t + 1 < c.length := hp
        refine ⟨_, rfl, _, rfl, _, _, rfl, rfl, ca, _, _, _, rfl, rfl, lst_at hc, at_of (j := t + 1) (by show (t : Int) + 1 = ((t + 1 : Nat) : Int); omega) (ints_at hp), _, rfl, _, _, rfl, rfl, ?_⟩
        exact ⟨rfl, _, hm, rfl⟩
      | «at» =>
        refine iteF ?_
        exact ⟨rfl, _, hm, rfl⟩
    rintro σ H2 ⟨rfl, n, hn, rfl⟩
    refine ⟨_, rfl, _, rfl, _, sn, n, rfl, ⟨pb, rfl, h2⟩, _, rfl, ?_⟩
    rw [decide_eq_true hn]
    refine iteF ?_
    exact ⟨_, _, _, _, rfl, rfl⟩
  · rintro σ H' ⟨x2, x3, x4, x5, rfl, rfl⟩
    exact q
def spWalked : Sp := fun vs H Q _ => ∃ (p : Addr) (hv kv : V) (d0 : Addr) (b : Bd) (far : Int) (ws : List Wd) (cl : List Pt) (c : List Int), vs = [.ref p, hv, .ref d0, kv] ∧ H p = some (.lst (c.map V.int)) ∧ ShapeAt H hv b far ∧ BOk b ∧ TabAt H d0 ws ∧ (∀ x ∈ ws, x.1.2 < b.turns) ∧ LstAt PartAt H kv cl ∧ (∀ p ∈ cl, PtOk b.turns p) ∧ Told b ws cl c ∧ ∀ H', Same H H' → Q (.bl true) H'
theorem df_walked (T : Tx K mg "_law_walked" sWalked) (B : Bi mg) (WH : Df P w K mg base 1 "_law_whole" ["_law_found"] spWhole) (ME : Df P w K mg base 2 "_law_met" ["_law_course_here", "_law_claim"] spMet) (LL : Df P w K mg base 2 "_law_liars" ["_law_told", "_law_course_here"] spLLiars) :
    Df P w K mg base 3 "_law_walked" ["_law_found", "_law_shape_here", "_law_told", "_law_claim"] spWalked := by
  refine df_mk T (fun _ _ _ _ _ _ us hl => match us, hl with | [_, _, _, _], _ => rfl) fun f fd F _ => ?_
  refine F.ok scWalked (fun vs H Q E h => ?_) (fun cdv A outer s H vs Q E hr h => ?_)
  · obtain ⟨p, hv, kv, d0, b, far, ws, cl, c, rfl, _⟩ := h
    rfl
  obtain ⟨p, hv, kv, d0, b, far, ws, cl, c, rfl, hp, ⟨ha, rfl, hsh⟩, ⟨o1, o2, o3, o4, o5, o6, o7⟩, htab, htn, hcl, hok, ⟨go, G, hG, hh⟩, q⟩ := h
  have hr1 : Room 1 _ := hr.mono (by decide)
  refine ⟨_, pss_cons (ps_if (PW.pt (pw_or (pt_not (pt_val (pe_callB RZ.call_isTy (by rfl) B.isinst (by decide +kernel) (pa_cons (pv 0) (pa_cons (pe_bltn (v := .ty "list") (u := .type "list") (by rfl) B.list (by decide +kernel) rfl) pa_nil)))))
        (pw_or1 (pt_cmpR op_ne (pe_callB call_len_seq (by rfl) B.len PySem.boot_len (pa_cons (pv 0) pa_nil)) (pe_ix ix_list (pv 1) pe_int (fun _ _ => rfl)) (nomark _))))) (pss_one (ps_ret pe_bl)) pss_nil)
    (pss_cons (ps_for PassesOwn.never rfl (pi_list (pv 0)) (pg_name (i := 4) scWalked.nd rfl (Or.inl rfl))
      (pss_one (ps_if (pt_not (pt_val (callD WH hr1 (pa_cons (pv 4) pa_nil)))) (pss_one (ps_ret pe_bl)) pss_nil)))
    (pss_cons (ps_for PassesOwn.never rfl (pi_range1 rfl B.range (pa_cons (pe_op op_sub (pe_ix ix_list (pv 1) pe_int (fun _ _ => rfl)) pe_int) pa_nil)) (pg_name (i := 5) scWalked.nd rfl (Or.inl rfl))
      (pss_one (ps_if (PW.pt (pw_or (pt_cmpR op_gt (pe_op op_sub (pe_ix ix_list (pv 0) (pe_op op_add (pv 5) pe_int) (fun _ _ => rfl)) (pe_ix ix_list (pv 0) (pv 5) (fun _ _ => rfl))) (pe_ix ix_list (pv 1) pe_int (fun _ _ => rfl)) (nomark _))
        (pw_or1 (pt_cmpR op_gt (pe_op op_sub (pe_ix ix_list (pv 0) (pv 5) (fun _ _ => rfl)) (pe_ix ix_list (pv 0) (pe_op op_add (pv 5) pe_int) (fun _ _ => rfl))) (pe_ix ix_list (pv 1) pe_int (fun _ _ => rfl)) (nomark _))))) (pss_one (ps_ret pe_bl)) pss_nil)))
    (pss_one (ps_ret (pe_and (callD ME hr (pa_cons (pv 0) (pa_cons (pv 3) pa_nil))) (pe_one (pe_cmpR op_le (pe_callB call_len_seq (by rfl) B.len PySem.boot_len (pa_cons (callD LL hr (pa_cons (pv 2) (pa_cons (pv 0) pa_nil))) pa_nil)) (pe_ix ix_list (pv 1) pe_int (fun _ _ => rfl)) (nomark _)))))))), ?_⟩
  have hcl' : c.length = b.turns := go.1
  refine u_if1 ?_
  refine ⟨_, rfl, _, "list", rfl, .lst hp, _, rfl, iteF ?_⟩
  refine ⟨_, rfl, p, _, rfl, .inl (lst_at hp), _, rfl, ha, _, _, _, rfl, rfl, lst_at hsh, at_of (j := 1) rfl rfl, rfl, _, rfl, ?_⟩
  rw [show decide (V.int (((c.map V.int).length : Nat) : Int) = V.int (b.turns : Int)) = true from decide_eq_true (by rw [List.length_map, hcl'])]
  refine iteF ?_
  refine ⟨_, rfl, p, rfl, ⟨_, lst_at hp⟩, for_list (K := K) (a := p) (xs := c.map V.int) (fun i σ H' => ∃ x4, σ = [some (.ref p), some (.ref ha), some (.ref d0), some kv, x4, none] ∧ H' = H) ⟨none, rfl, rfl⟩
    (fun i σ H' _ ⟨_, _, e⟩ => lst_at (by rw [e]; exact hp)) ?_ ?_⟩
  · rintro i x σ H' hx ⟨x4, rfl, rfl⟩
    obtain ⟨n, _, rfl⟩ := List.mem_map.mp (List.mem_of_getElem? hx)
    refine ⟨_, rfl, n, rfl, _, rfl, iteF ?_⟩
    exact ⟨_, rfl, rfl⟩
  rintro σ H' ⟨x4, rfl, rfl⟩
  refine ⟨_, rfl, ha, _, _, _, rfl, rfl, lst_at hsh, at_of (j := 1) rfl rfl, _, _, rfl, rfl, _, rfl, by omega, by omega, ?_⟩
  refine for_range (lo := 0) (n := ((b.turns : Int) - 1).toNat) (fun i σ H2 => ∃ x5, σ = [some (.ref p), some (.ref ha), some (.ref d0), some kv, x4, x5] ∧ H2 = H') ⟨none, rfl, rfl⟩ ?_ ?_
  · rintro i σ H2 hi ⟨x5, rfl, rfl⟩
    have hi2 : i + 1 < b.turns := by omega
    have g := go.2.1 i hi2
    refine ⟨_, rfl, _, rfl, _, _, rfl, rfl, p, _, _, _, rfl, rfl, lst_at hp, at_of (j := i + 1) (by omega) (ints_at (by omega)), _, rfl, _, rfl, p, _, _, _, rfl, rfl, lst_at hp, at_of (j := i) (by omega) (ints_at (by omega)), _, _, rfl, rfl, _, rfl, ha, _, _, _, rfl, rfl, lst_at hsh, at_of (j := 2) rfl rfl, _, _, rfl, rfl, _, rfl, ?_⟩
    rw [show decide (b.up < cAt c (i + 1) - cAt c i) = false from decide_eq_false (by omega)]
    refine iteF ?_
    refine ⟨_, rfl, _, rfl, p, _, _, _, rfl, rfl, lst_at hp, at_of (j := i) (by omega) (ints_at (by omega)), _, rfl, _, rfl, _, _, rfl, rfl, p, _, _, _, rfl, rfl, lst_at hp, at_of (j := i + 1) (by omega) (ints_at (by omega)), _, _, rfl, rfl, _, rfl, ha, _, _, _, rfl, rfl, lst_at hsh, at_of (j := 3) rfl rfl, _, _, rfl, rfl, _, rfl, ?_⟩
    rw [show decide (b.down < cAt c i - cAt c (i + 1)) = false from decide_eq_false (by omega)]
    refine iteF ?_
    exact ⟨_, rfl, rfl⟩
  rintro σ H2 ⟨x5, rfl, rfl⟩
  refine ⟨_, rfl, _, rfl, _, _, c, cl, rfl, ⟨p, _, rfl, hp, paired_ofInts c⟩, hcl, fun x hx => by rw [hcl']; exact hok x hx, go.2.2, _, rfl, iteT ?_⟩
  refine ⟨_, rfl, _, rfl, d0, _, ws, c, G, rfl, htab, ⟨p, _, rfl, hp, paired_ofInts c⟩, fun x hx => by rw [hcl']; exact htn x hx, fun x hx hn => Decidable.byContradiction fun z => hn (hh x hx z), by omega, fun ns r H3 hns s3 nr hr3 => ?_⟩
  refine ⟨r, _, rfl, .inl (lst_at hr3), _, rfl, ha, _, _, _, rfl, rfl, lst_at (s3 _ _ hsh), at_of (j := 4) rfl rfl, _, _, rfl, rfl, ?_⟩
  show Q (.bl (decide ((((ns.map V.int).length : Nat) : Int) ≤ (b.most : Int)))) H3
  rw [show decide ((((ns.map V.int).length : Nat) : Int) ≤ (b.most : Int)) = true from decide_eq_true (by rw [List.length_map]; omega)]
  exact q H3 s3
end
end Gz
namespace Gz
open PySem PySem.Spec PyProof.Rows L2
def BlAt (_ : Hp) (v : V) (b : Bool) : Prop := v = .bl b
theorem mono_bl : Mono BlAt := fun _ _ _ _ _ h => h
theorem off_bl : OffT BlAt := fun _ _ _ _ _ _ h => h
theorem paired_bls : ∀ {vs : List V} {bs : List Bool} {H : Hp}, Paired (BlAt H) vs bs → vs = bs.map V.bl
  | _, _, _, .nil => rfl
  | _, _, _, .cons (a := a) (b := b) r t => by
    have e : a = V.bl b := r
    rw [e, paired_bls t]
    rfl
theorem bls_flat : ∀ bs : List Bool, (bs.map V.bl).all flatV = true
  | [] => rfl
  | _ :: r => bls_flat r
theorem inV_bl (b : Bool) : ∀ bs : List Bool, inV (.bl b) (bs.map V.bl) = bs.any (fun x => x == b)
  | [] => rfl
  | x :: r => by
    show (eqV (.bl x) (.bl b) || inV (.bl b) (r.map V.bl)) = ((x == b) || r.any (fun x => x == b))
    rw [inV_bl b r]
    rfl
def dTri (x : Wd) : PyData := .tuple [.int (x.1.1 : Int), .int (x.1.2 : Int), dSn x.2]
theorem dp_tri (K : PySem.W.Frag) {H : Hp} {v : V} {x : Wd} (h : TriAt H v x) : Dp K H v (dTri x) := by
  obtain ⟨a, b, rfl, h1, h2⟩ := h
  exact .tup (tup_at h1) (.cons (.int _) (.cons (.int _) (.cons (dp_span K ⟨b, rfl, h2⟩) .nil)))
theorem lay_tri (x : Wd) : (dTri x).canLay0 = true := by simp [dTri, PyData.canLay0, PyData.canLayAll0, lay_sn]
theorem dep_tri (x : Wd) : (dTri x).depth = 2 := by simp [dTri, PyData.depth, PyData.depthAll, dep_sn]
theorem lay_all {α : Type} (D : α → PyData) (h1 : ∀ x, (D x).canLay0 = true) : ∀ xs : List α, (PyData.list (xs.map D)).canLay0 = true := by
  have a : ∀ xs : List α, PyData.canLayAll0 (xs.map D) = true := fun xs => by
    induction xs with
    | nil => simp [PyData.canLayAll0]
    | cons x r ih => simp [PyData.canLayAll0, h1, ih]
  exact fun xs => by simp [PyData.canLay0, a]
theorem mem_key_eq : ∀ {ws : List Wd}, (ws.map (·.1)).Nodup → ∀ {x y : Wd}, x ∈ ws → y ∈ ws → x.1 = y.1 → x = y
  | [], _, _, _, h, _, _ => by cases h
  | z :: r, nd, x, y, hx, hy, e => by
    have nd : (z.1 :: r.map (·.1)).Nodup := nd
    obtain ⟨n1, n2⟩ := List.nodup_cons.mp nd
    rcases List.mem_cons.mp hx with a | a
    · rcases List.mem_cons.mp hy with b | b
      · rw [a, b]
      · rw [a] at e
        exact absurd (List.mem_map.mpr ⟨y, b, e.symm⟩) n1
    · rcases List.mem_cons.mp hy with b | b
      · rw [b] at e
        exact absurd (List.mem_map.mpr ⟨x, a, e⟩) n1
      · exact mem_key_eq n2 a b e
theorem sorted_one {ws a b : List Wd} (nd : (ws.map (·.1)).Nodup) (pa : a.Perm ws) (pb : b.Perm ws) (sa : a.Pairwise wle) (sb : b.Pairwise wle) : a = b := by
  refine List.Perm.eq_of_pairwise (le := wle) (fun x y hx hy h1 h2 => ?_) sa sb (pa.trans pb.symm)
  refine mem_key_eq nd (pa.mem_iff.mp hx) (pb.mem_iff.mp hy) ?_
  obtain ⟨⟨x1, x2⟩, xs⟩ := x
  obtain ⟨⟨y1, y2⟩, ys⟩ := y
  have h1 : x1 < y1 ∨ (x1 = y1 ∧ x2 ≤ y2) := h1
  have h2 : y1 < x1 ∨ (y1 = x1 ∧ y2 ≤ x2) := h2
  show (x1, x2) = (y1, y2)
  rw [show x1 = y1 by omega, show x2 = y2 by omega]
theorem tells_off {H : Hp} {d : Addr} {kvs0 : List (List Key × V)} (hd : H d = some (.dT kvs0)) {o : HO} : ∀ {kvs : List (List Key × V)} {ws : List Wd}, Paired (TellAt H) kvs ws → Paired (TellAt (upd H d o)) kvs ws
  | _, _, .nil => .nil
  | _, _, .cons ⟨r1, z, e1, e2⟩ t => .cons ⟨r1, z, e1, by rw [upd_ne (ne_of e2 hd (by intro z; cases z))]; exact e2⟩ (tells_off hd t)
theorem tab_put {H : Hp} {d : Addr} {kvs : List (List Key × V)} {ws : List Wd} {k : Nat × Nat} {v : V} {s : Sn} (hd : H d = some (.dT kvs)) (pt : Paired (TellAt H) kvs ws) (nd : (ws.map (·.1)).Nodup) (hv : SpanAt H v s) :
    TabAt (upd H d (.dT (putK kvs (keyOf k) v))) d (putW ws k s) := ⟨_, upd_same, tells_off hd (put_told pt hv), putW_keys _ _ _ nd⟩
theorem len_i {i n m : Nat} (h : i < n) (h2 : n ≤ 7) {t j : Nat} (h3 : t ≤ 12) (h4 : j < t) : 600 + 6 * (i * t + j) ≤ 10000 := by
  have := Nat.mul_le_mul (Nat.le_of_lt h) h3
  omega
theorem k_eq (i j t : Nat) : (600 : Int) + 6 * ((i : Int) * (t : Int) + (0 + (j : Int))) = ((600 + 6 * (i * t + j) : Nat) : Int) := by
  rw [Int.zero_add]
  omega
theorem ly_eq (first eyes most i : Nat) : decide (((i : Int) + (first : Int)) % (eyes : Int) < (most : Int)) = lyE first eyes most i := by
  unfold lyE
  rw [← Int.natCast_add, ← Int.natCast_emod]
  exact decide_eq_decide.mpr Int.ofNat_lt
section
variable {P : Program} {w : World} {K : PySem.W.Frag} {mg : Str → Option Value} {base : Heap} {C : Addr}
def spHas2 : Sp := fun vs H Q _ => ∃ (sv : V) (n : Int) (ts : List Sn), vs = [sv, .int n] ∧ LstAt SpanAt H sv ts ∧ (∃ s ∈ ts, In s n) ∧ ts.length ≤ 1000 ∧ ∀ H', Same H H' → Q (.bl true) H'
theorem df_has2 (T : Tx K mg "_law_has" sHas2) (B : Bi mg) (IN : Df P w K mg base 1 "_law_in" ["_law_span", "_law_number"] spIn) : Df P w K mg base 2 "_law_has" ["_law_some", "_law_number"] spHas2 := by
  refine df_mk T (fun _ _ _ _ _ _ us hl => match us, hl with | [_, _], _ => rfl) fun f fd F _ => ?_
  refine F.ok scHas2 (fun vs H Q E h => ?_) (fun cdv A outer s H vs Q E hr h => ?_)
  · obtain ⟨sv, n, ts, rfl, _⟩ := h
    rfl
  obtain ⟨sv, n, ts, rfl, ⟨a, vs, rfl, hv, pv0⟩, ⟨s0, hs0, hin⟩, hlen, q⟩ := h
  have hvl := paired_len pv0
  refine ⟨_, pss_cons (ps_if (pt_not (pt_val (pe_callB RZ.call_isTy (by rfl) B.isinst (by decide +kernel) (pa_cons (pv 0) (pa_cons (pe_bltn (v := .ty "list") (u := .type "list") (by rfl) B.list (by decide +kernel) rfl) pa_nil))))) (pss_one (ps_ret pe_bl)) pss_nil)
    (pss_one (ps_ret (pe_cmpR op_in_seq pe_bl (pe_lc (own := [("_law_span", 2)]) (g := gName 2) (by rfl) scHas2.nd (pi_list (pv 0))
        (blkOk_by (own := [("_law_span", 2)]) (N := ["_law_some", "_law_number", "_law_span"]) (sc := defScope sHas2) (by decide +kernel)) (fun _ _ _ _ _ => pg_name (i := 2) scHas2.nd rfl (Or.inl rfl)) (fun _ _ _ _ _ => pts_nil)
        (fun _ _ _ _ _ => callD IN hr (pa_cons (pv 2) (pa_cons (pv 1) pa_nil)))) (by rfl)))), ?_⟩
  refine u_if1 ?_
  refine ⟨_, rfl, _, "list", rfl, .lst hv, _, rfl, iteF ?_⟩
  refine u_ret (u_op (u_c (tLc_of ?_)))
  refine ⟨_, rfl, a, rfl, ⟨_, lst_at hv⟩, ?_⟩
  refine lc_fm (H1 := H) mono_bl off_bl (fun s : Sn => some (decide (In s n))) hvl hv (len_lt (by omega)) (fun i x y H' N C0 hx hy s1 hN hC => ?_) (fun D H' nD s1 hm2 => ?_)
  · obtain ⟨y', e1, hy'⟩ := paired_atV pv0 hx
    obtain rfl : y' = y := Option.some.inj (e1.symm.trans hy)
    refine ⟨rfl, _, rfl, _, rfl, _, y', n, rfl, mono_span _ _ _ _ s1 hy', ?_⟩
    exact hN _ _ _ rfl (Same.refl _) rfl
  · obtain ⟨acc, h1, h2⟩ := hm2
    rw [List.filterMap_eq_map'] at h2
    have e := paired_bls h2
    subst e
    refine ⟨D, _, rfl, .inl (lst_at h1), rfl, bls_flat _, ?_⟩
    show Q (.bl (if false = true then !inV (.bl true) ((ts.map fun s => decide (In s n)).map V.bl) else inV (.bl true) ((ts.map fun s => decide (In s n)).map V.bl))) H'
    rw [if_neg (by decide), inV_bl, show ((ts.map fun s => decide (In s n)).any fun x => x == true) = true from List.any_eq_true.mpr ⟨true, List.mem_map.mpr ⟨s0, hs0, decide_eq_true hin⟩, rfl⟩]
    exact q H' s1
def spSame (C : Addr) : Sp := fun vs H Q _ => ∃ (bv : V) (d0 : Addr) (b : Bd) (ws ws' : List Wd), vs = [bv, .ref d0] ∧ BoardAt C b H bv ws' ∧ TabAt H d0 ws ∧ ws'.Perm ws ∧ ws.length ≤ 500 ∧ ∀ H', Same H H' → Q (.bl true) H'
theorem df_same (T : Tx K mg "_law_same" sSame) (B : Bi mg) (BC : BT K mg C) (TT : Dm P w K mg base C 1 "tellings" ["self"] (spTellings C)) : Df P w K mg base 2 "_law_same" ["_law_board_here", "_law_told"] (spSame C) := by
  refine df_mk T (fun _ _ _ _ _ _ us hl => match us, hl with | [_, _], _ => rfl) fun f fd F _ => ?_
  obtain ⟨fT, fdT, FT, mT, bT⟩ := TT
  refine F.ok scSame (fun vs H Q E h => ?_) (fun cdv A outer s H vs Q E hr h => ?_)
  · obtain ⟨bv, d0, b, ws, ws', rfl, _⟩ := h
    rfl
  obtain ⟨bv, d0, b, ws, ws', rfl, hb, ⟨kvs, hd, pt, nd⟩, hperm, hlen, q⟩ := h
  have hu := hu_of hr
  refine ⟨_, pss_cons (ps_set (i := 2) scSame.nd rfl (Or.inl rfl) (pe_callB cr_sortedPO (by rfl) B.sorted (by decide +kernel) (pa_cons (pe_callTy (call_list_dT rfl) (by rfl) B.list (by decide +kernel) (pa_cons (pv 1) pa_nil)) pa_nil)))
    (pss_one (ps_ret (pe_cmpR (op_eqD (hr.units)) (pe_meth0 (pv 0) BC.cl mT FT hr bT .nil pass0) (pe_lc (own := [("_law_spot", 3)]) (g := gName 3) (by rfl) scSame.nd (pi_list (pv 2))
        (blkOk_by (own := [("_law_spot", 3)]) (N := ["_law_board_here", "_law_told", "_law_spots", "_law_spot"]) (sc := defScope sSame) (by decide +kernel)) (fun _ _ _ _ _ => pg_name (i := 3) scSame.nd rfl (Or.inl rfl)) (fun _ _ _ _ _ => pts_nil)
        (fun _ _ _ _ _ => pe_tup (pa_cons (pe_ix (ixT K) (pv 3) pe_int (fun _ _ => rfl)) (pa_cons (pe_ix (ixT K) (pv 3) pe_int (fun _ _ => rfl)) (pa_cons (pe_dget hu (pv 1) (pv 3) (fun _ _ => rfl)) pa_nil))))) (by rfl)))), ?_⟩
  obtain ⟨a, dx, fs, d, rfl, ha, fl, tb⟩ := id hb
  refine u_set ?_
  refine ⟨_, rfl, d0, kvs, rfl, .inl hd, fun p bs np ik => ?_⟩
  have s1 : Same H (upd H p (.lst (bs.map V.ref))) := same_new np _
  have pk := keys_told pt ik
  refine ⟨p, bs.map V.ref, pairOf H, rfl, .inl (.inl upd_same), fun x hx => ?_, fun ys r hso hst nr => ?_⟩
  · obtain ⟨i, hi, e⟩ := List.getElem_of_mem hx
    obtain ⟨y, e1, hy⟩ := paired_atV pk (i := i) (v := x) (by rw [List.getElem?_eq_getElem hi, e])
    rw [pairOf_at hy]
    obtain ⟨t, e2, h2⟩ := hy
    exact ⟨t, e2, s1 _ _ h2⟩
  have s2 : Same H (upd (upd H p (.lst (bs.map V.ref))) r (.lst ys)) := s1.trans (same_new nr _)
  have hrr : (upd (upd H p (.lst (bs.map V.ref))) r (.lst ys)) r = some (.lst ys) := upd_same
  generalize (upd (upd H p (.lst (bs.map V.ref))) r (.lst ys)) = H2 at *
  obtain ⟨sw, hsw, psw⟩ := perm_paired hst.perm pk
  have hle := sorted_wle psw hso
  have hsl := paired_len psw
  refine u_ret (u_op ?_)
  refine ⟨_, rfl, a, dx, fs, rfl, s2 _ _ ha, fl.nTellings, _, b, ws', rfl, mono_board _ _ _ _ s2 hb, by rw [hperm.length_eq]; omega, fun sw2 p2 H3 hsw2 hle2 s3 np2 hp2 => ?_⟩
  obtain ⟨tv2, hp2, ptv2⟩ := hp2
  have s23 := s2.trans s3
  refine tLc_of ?_
  refine ⟨_, rfl, r, rfl, ⟨_, lst_at (s3 _ _ hrr)⟩, ?_⟩
  refine lc_fm (H1 := H3) mono_tri off_tri (fun x : Wd => some x) hsl (s3 _ _ hrr) (len_lt (by rw [hsl, hsw.length_eq]; omega)) (fun i x y H' N C0 hx hy s4 hN hC => ?_) (fun D H' nD s4 hm2 => ?_)
  · obtain ⟨y', e1, k, rfl, hk⟩ := paired_atV psw hx
    obtain rfl : y' = y := Option.some.inj (e1.symm.trans hy)
    have hym : y' ∈ ws := hsw.mem_iff.mp (List.mem_of_getElem? hy)
    obtain ⟨⟨e, t⟩, sn⟩ := y'
    obtain ⟨v, hv1, sa, rfl, hv2⟩ := valV_told pt hym nd
    have s24 := s23.trans s4
    refine ⟨rfl, _, rfl, k, _, _, _, rfl, rfl, tup_at (s24 _ _ hk), rfl, _, rfl, k, _, _, _, rfl, rfl, tup_at (s24 _ _ hk), rfl, _, rfl, _, rfl, d0, .ref sa, rfl, ?_, (by show 3 ≤ sizeLine; decide), fun o no => ?_⟩
    · have g := DGet.t (k := keyOf (e, t)) (s24 _ _ hd) (s24 _ _ hk)
      rw [hv1] at g
      exact g
    · exact hN _ _ _ rfl (same_new no _) ⟨o, sa, rfl, upd_same, same_new no _ _ _ (s24 _ _ hv2)⟩
  · rw [show sw.filterMap (fun x : Wd => some x) = sw from List.filterMap_some] at hm2
    obtain ⟨acc, h1, h2⟩ := hm2
    have es : sw2 = sw := sorted_one nd (hsw2.trans hperm) hsw hle2 hle
    subst es
    refine ⟨_, _, dp_lst K (fun v x h => dp_tri K h) (s4 _ _ hp2) (paired_mono mono_tri s4 ptv2), dp_lst K (fun v x h => dp_tri K h) h1 h2, shaped_lst dTri 2 (by decide) lay_tri (fun x => Nat.le_of_eq (dep_tri x)) _, shaped_lst dTri 2 (by decide) lay_tri (fun x => Nat.le_of_eq (dep_tri x)) _, ?_⟩
    rw [PySem.SeqAt.eqv_refl _ (lay_all dTri lay_tri _)]
    exact q H' (s23.trans s4)
def spMostly (K : PySem.W.Frag) : Sp := fun vs H Q _ => ∃ (sv hv cv : V) (b : Bd) (far : Int) (c : List Int), vs = [sv, hv, cv] ∧ Scr K H sv ∧ ShapeAt H hv b far ∧ 1 ≤ far ∧ BOk b ∧ LstAt IntAt H cv c ∧ c.length = b.turns ∧
  ∀ (first : Nat) (ws : List Wd) d H', first < b.eyes → WordsOk b ws → (∀ x ∈ ws, lyE first b.eyes b.most x.1.1 = false → In x.2 (cAt c x.1.2)) → ws.length ≤ 24 → Same H H' → H d = none → TabAt H' d ws → Q (.ref d) H'
theorem df_mostly (T : Tx K mg "_law_mostly" sMostly) (B : Bi mg) (PK : Df P w K mg base 1 "_law_pick" ["_law_script", "_law_k", "_law_many"] (spPick K)) (WD : Df P w K mg base 2 "_law_wide" ["_law_script", "_law_k", "_law_many"] (spWide K))
    (WO : Df P w K mg base 2 "_law_word" ["_law_script", "_law_k", "_law_far", "_law_number", "_law_false"] (spWord K)) : Df P w K mg base 3 "_law_mostly" ["_law_script", "_law_shape_here", "_law_course_here"] (spMostly K) := by
  refine df_mk T (fun _ _ _ _ _ _ us hl => match us, hl with | [_, _, _], _ => rfl) fun f fd F _ => ?_
  refine F.ok scMostly (fun vs H Q E h => ?_) (fun cdv A outer s H vs Q E hr h => ?_)
  · obtain ⟨sv, hv, cv, b, far, c, rfl, _⟩ := h
    rfl
  obtain ⟨sv, hv, cv, b, far, c, rfl, hs, ⟨ha, rfl, hsh⟩, hfar, ⟨o1, o2, o3, o4, o5, o6, o7⟩, ⟨ca, cvs, rfl, hc, pc⟩, hcl, q⟩ := h
  have ec := paired_ints pc
  subst ec
  have hr1 : Room 1 _ := hr.mono (by decide)
  have hu := hu_of hr
  refine ⟨_, pss_cons (ps_set (i := 3) scMostly.nd rfl (Or.inl rfl) (callD PK hr1 (pa_cons (pv 0) (pa_cons pe_int (pa_cons (pe_ix ix_list (pv 1) pe_int (fun _ _ => rfl)) pa_nil)))))
    (pss_cons (ps_set (i := 4) scMostly.nd rfl (Or.inl rfl) pe_dnewT)
    (pss_cons (ps_set (i := 5) scMostly.nd rfl (Or.inl rfl) pe_int)
    (pss_cons (ps_set (i := 6) scMostly.nd rfl (Or.inl rfl) pe_int)
    (Evl.pss_cut (ps_if (pt_cmpR op_gt (pe_op op_mulB (pe_ix ix_list (pv 1) pe_int (fun _ _ => rfl)) (pe_ix ix_list (pv 1) pe_int (fun _ _ => rfl))) pe_int (nomark _))
      (pss_cons (ps_set (i := 5) scMostly.nd rfl (Or.inl rfl) pe_int) (pss_one (ps_set (i := 6) scMostly.nd rfl (Or.inl rfl) pe_int))) pss_nil)
    (pss_cons (ps_for PassesOwn.never rfl (pi_range1 rfl B.range (pa_cons (pe_ix ix_list (pv 1) pe_int (fun _ _ => rfl)) pa_nil)) (pg_name (i := 7) scMostly.nd rfl (Or.inl rfl))
      (pss_cons (ps_set (i := 8) scMostly.nd rfl (Or.inl rfl) (pe_cmpR op_lt (pe_op op_mod (pe_op op_add (pv 7) (pv 3)) (pe_ix ix_list (pv 1) pe_int (fun _ _ => rfl))) (pe_ix ix_list (pv 1) pe_int (fun _ _ => rfl)) (nomark _)))
      (pss_one (ps_for PassesOwn.never rfl (pi_range1 rfl B.range (pa_cons (pe_ix ix_list (pv 1) pe_int (fun _ _ => rfl)) pa_nil)) (pg_name (i := 9) scMostly.nd rfl (Or.inl rfl))
        (pss_cons (ps_set (i := 10) scMostly.nd rfl (Or.inl rfl) (pe_op op_add pe_int (pe_op op_mulB pe_int (pe_op op_add (pe_op op_mulB (pv 7) (pe_ix ix_list (pv 1) pe_int (fun _ _ => rfl))) (pv 9)))))
        (pss_cons (ps_set (i := 11) scMostly.nd rfl (Or.inl rfl) (pe_ix ix_list (pv 2) (pv 9) (fun _ _ => rfl)))
        (Evl.pss_cut (ps_if (PW.pt (pw_and (pt_val (pv 8)) (pw_and1 (pt_cmpR op_eq (callD PK hr1 (pa_cons (pv 0) (pa_cons (pv 10) (pa_cons pe_int pa_nil)))) pe_int (nomark _)))))
          (pss_one (ps_set (i := 11) scMostly.nd rfl (Or.inl rfl) (pe_op op_sub (callD WD hr (pa_cons (pv 0) (pa_cons (pv 10) (pa_cons (pe_op op_add (pe_op op_mulB pe_int (pe_op op_pow pe_int pe_int)) pe_int) pa_nil)))) (pe_op op_pow pe_int pe_int)))) pss_nil)
        (pss_one (ps_if (PW.pt (pw_and (pt_cmpR op_lt (pe_callB call_len_dT (by rfl) B.len PySem.boot_len (pa_cons (pv 4) pa_nil)) (pv 6) (nomark _)) (pw_and1 (pt_cmpR op_gt (callD PK hr1 (pa_cons (pv 0) (pa_cons (pv 10) (pa_cons (pv 5) pa_nil)))) (pe_op op_sub (pv 5) pe_int) (nomark _)))))
          (pss_one (ps_dput hu (pv 4) (pe_tup (pa_cons (pv 7) (pa_cons (pv 9) pa_nil))) (callD WO hr (pa_cons (pv 0) (pa_cons (pe_op op_add (pv 10) pe_int) (pa_cons (pe_ix ix_list (pv 1) pe_int (fun _ _ => rfl)) (pa_cons (pv 11) (pa_cons (pv 8) pa_nil)))))) rfl)) pss_nil)))))))))
    (pss_one (ps_ret (pv 4)))))))), ?_⟩
  refine u_set ?_
  refine ⟨_, rfl, _, rfl, ha, _, _, _, rfl, rfl, lst_at hsh, at_of (j := 0) rfl rfl, _, 23, b.eyes, rfl, hs, by decide, by omega, fun first hf => ?_⟩
  refine u_set ?_
  intro d nd
  have s0 := same_new nd (.dT [])
  have hd0 : (upd H d (.dT [])) d = some (.dT []) := upd_same
  generalize upd H d (.dT []) = H1 at *
  refine ⟨fun σ H2 => H2 = H1 ∧ ∃ dn lm : Nat, 4 ≤ dn ∧ dn ≤ 16 ∧ lm ≤ 24 ∧ σ = [some sv, some (.ref ha), some (.ref ca), some (.int (first : Int)), some (.ref d), some (.int (dn : Int)), some (.int (lm : Int)), none, none, none, none, none], ?_, ?_⟩
  · refine ⟨_, rfl, ha, _, _, _, rfl, rfl, lst_at (s0 _ _ hsh), at_of (j := 0) rfl rfl, _, rfl, ha, _, _, _, rfl, rfl, lst_at (s0 _ _ hsh), at_of (j := 1) rfl rfl, _, _, rfl, rfl, ok_sm (by omega), _, _, rfl, rfl, _, rfl, ?_⟩
    refine ite2 (fun c => ?_) (fun c => ?_)
    · exact ⟨rfl, 16, 16, by decide, by decide, by decide, rfl⟩
    · exact ⟨rfl, 4, 24, by decide, by decide, by decide, rfl⟩
  rintro σ H2 ⟨rfl, dn, lm, hdn1, hdn2, hlm, rfl⟩
  refine ⟨_, rfl, ha, _, _, _, rfl, rfl, lst_at (s0 _ _ hsh), at_of (j := 0) rfl rfl, _, rfl, by omega, by omega, ?_⟩
  refine for_range (lo := 0) (n := (b.eyes : Int).toNat) (fun i σ H' => ∃ (ws : List Wd) (x7 x8 x9 x10 x11 : Option V), σ = [some sv, some (.ref ha), some (.ref ca), some (.int (first : Int)), some (.ref d), some (.int (dn : Int)), some (.int (lm : Int)), x7, x8, x9, x10, x11] ∧
      Same H H' ∧ TabAt H' d ws ∧ ws.length ≤ lm ∧ WordsOk b ws ∧ ∀ x ∈ ws, lyE first b.eyes b.most x.1.1 = false → In x.2 (cAt c x.1.2))
    ⟨[], none, none, none, none, none, rfl, s0, ⟨[], hd0, .nil, List.nodup_nil⟩, Nat.zero_le _, (fun _ h => by cases h), fun _ h => by cases h⟩ ?_ ?_
  · rintro i σ H' hi ⟨ws, x7, x8, x9, x10, x11, rfl, s1, htab, hwl, hwo, hwt⟩
    have hi : i < b.eyes := by omega
    refine u_norm (t := tSeq _ _) (σ' := [some sv, some (.ref ha), some (.ref ca), some (.int (first : Int)), some (.ref d), some (.int (dn : Int)), some (.int (lm : Int)), some (.int (i : Int)), x8, x9, x10, x11]) ?_ ?_
    · show [some sv, some (.ref ha), some (.ref ca), some (.int (first : Int)), some (.ref d), some (.int (dn : Int)), some (.int (lm : Int)), some (.int (0 + (i : Int))), x8, x9, x10, x11] = _
      rw [Int.zero_add]
    refine u_set ?_
    refine ⟨_, rfl, _, rfl, _, _, rfl, rfl, _, rfl, ha, _, _, _, rfl, rfl, lst_at (s1 _ _ hsh), at_of (j := 0) rfl rfl, _, _, rfl, rfl, by omega, _, rfl, ha, _, _, _, rfl, rfl, lst_at (s1 _ _ hsh), at_of (j := 4) rfl rfl, _, _, rfl, rfl, ?_⟩
    refine ⟨_, rfl, ha, _, _, _, rfl, rfl, lst_at (s1 _ _ hsh), at_of (j := 1) rfl rfl, _, rfl, by omega, by omega, ?_⟩
    obtain ⟨fl, hly⟩ : ∃ fl, lyE first b.eyes b.most i = fl := ⟨_, rfl⟩
    have hfl := (ly_eq first b.eyes b.most i).trans hly
    refine for_range (lo := 0) (n := (b.turns : Int).toNat) (fun j σ H' => ∃ (ws : List Wd) (x9 x10 x11 : Option V), σ = [some sv, some (.ref ha), some (.ref ca), some (.int (first : Int)), some (.ref d), some (.int (dn : Int)), some (.int (lm : Int)), some (.int (i : Int)), some (.bl fl), x9, x10, x11] ∧
        Same H H' ∧ TabAt H' d ws ∧ ws.length ≤ lm ∧ WordsOk b ws ∧ ∀ x ∈ ws, lyE first b.eyes b.most x.1.1 = false → In x.2 (cAt c x.1.2))
      ⟨ws, x9, x10, x11, by rw [← hfl]; rfl, s1, htab, hwl, hwo, hwt⟩ ?_ ?_
    · clear htab hwl hwo hwt s1
      rintro j σ H' hj ⟨ws, x9, x10, x11, rfl, s1, ⟨kvs, hd, pt, nnd⟩, hwl, hwo, hwt⟩
      have hj : j < b.turns := by omega
      have hs1 := scr_mono s1 hs
      refine u_set ?_
      refine ⟨_, rfl, _, rfl, ha, _, _, _, rfl, rfl, lst_at (s1 _ _ hsh), at_of (j := 1) rfl rfl, _, _, rfl, rfl, ok_sm (by omega), _, rfl, _, _, rfl, rfl, _, _, rfl, rfl, .of_left (intBits_le_64 (by decide) (by decide)), _, _, rfl, rfl, ?_⟩
      refine u_set ?_
      refine ⟨_, rfl, _, rfl, ca, _, _, _, rfl, rfl, lst_at (s1 _ _ hc), at_of (j := j) (by omega) (ints_at (by omega)), ?_⟩
      have hkk := len_i (m := 0) hi o2 o4 hj
      have ek := k_eq i j b.turns
      obtain ⟨kk, ekk⟩ : ∃ kk, 600 + 6 * (i * b.turns + j) = kk := ⟨_, rfl⟩
      rw [ekk] at hkk ek
      show Evl.tCut _ _ _ _ _
      refine u_norm (σ' := [some sv, some (.ref ha), some (.ref ca), some (.int (first : Int)), some (.ref d), some (.int (dn : Int)), some (.int (lm : Int)), some (.int (i : Int)), some (.bl fl), some (.int (j : Int)), some (.int (kk : Int)), some (.int (cAt c j))]) ?_ ?_
      · show [some sv, some (.ref ha), some (.ref ca), some (.int (first : Int)), some (.ref d), some (.int (dn : Int)), some (.int (lm : Int)), some (.int (i : Int)), some (.bl fl), some (.int (0 + (j : Int))), some (.int ((600 : Int) + 6 * ((i : Int) * (b.turns : Int) + (0 + (j : Int))))), some (.int (cAt c j))] = _
        rw [ek, Int.zero_add]
      refine ⟨fun σ H2 => H2 = H' ∧ ∃ n : Int, (fl = false → n = cAt c j) ∧ σ = [some sv, some (.ref ha), some (.ref ca), some (.int (first : Int)), some (.ref d), some (.int (dn : Int)), some (.int (lm : Int)), some (.int (i : Int)), some (.bl fl), some (.int (j : Int)), some (.int (kk : Int)), some (.int n)], ?_, ?_⟩
      · refine ⟨_, rfl, _, rfl, ?_⟩
        cases fl with
        | false => exact iteF (iteF ⟨rfl, _, fun _ => rfl, rfl⟩)
        | true =>
          refine iteT ⟨_, rfl, _, rfl, _, kk, 4, rfl, hs1, by omega, by decide, fun r _ => ?_⟩
          refine ⟨rfl, _, rfl, ?_⟩
          refine ite2 (fun c => ?_) (fun c => ?_)
          · refine ⟨_, rfl, _, rfl, _, _, rfl, rfl, ⟨by decide, by decide, by decide⟩, _, _, rfl, rfl, .of_left (intBits_le_64 (by decide) (by decide)), _, _, rfl, rfl, _, kk, 2 * (10 : Int) ^ (60 : Int).toNat + 1, rfl, hs1, by omega, by decide, fun x _ _ => ?_⟩
            exact ⟨_, _, rfl, rfl, ⟨by decide, by decide, by decide⟩, _, _, rfl, rfl, rfl, _, (fun z => by cases z), rfl⟩
          · exact ⟨rfl, _, (fun z => by cases z), rfl⟩
      rintro σ H2 ⟨rfl, n, hn, rfl⟩
      have skip : ∃ (ws : List Wd) (y9 y10 y11 : Option V), [some sv, some (V.ref ha), some (.ref ca), some (.int (first : Int)), some (.ref d), some (.int (dn : Int)), some (.int (lm : Int)), some (.int (i : Int)), some (.bl fl), some (.int (j : Int)), some (.int (kk : Int)), some (.int n)] = [some sv, some (.ref ha), some (.ref ca), some (.int (first : Int)), some (.ref d), some (.int (dn : Int)), some (.int (lm : Int)), some (.int (i : Int)), some (.bl fl), y9, y10, y11] ∧
        Same H H2 ∧ TabAt H2 d ws ∧ ws.length ≤ lm ∧ WordsOk b ws ∧ ∀ x ∈ ws, lyE first b.eyes b.most x.1.1 = false → In x.2 (cAt c x.1.2) := ⟨ws, _, _, _, rfl, s1, ⟨kvs, hd, pt, nnd⟩, hwl, hwo, hwt⟩
      have hkl := paired_len pt
      refine ⟨_, rfl, d, kvs, rfl, hd, _, rfl, _, _, rfl, rfl, _, rfl, ?_⟩
      refine ite2 (fun c0 => ?_) (fun c0 => iteF skip)
      have c0 := of_decide_eq_true c0
      refine ⟨_, rfl, _, rfl, _, rfl, _, kk, dn, rfl, hs1, by omega, by omega, fun r _ => ?_⟩
      refine ⟨_, rfl, _, _, rfl, rfl, _, _, rfl, rfl, _, rfl, ?_⟩
      refine ite2 (fun c1 => ?_) (fun c1 => skip)
      refine ⟨_, rfl, _, rfl, _, _, rfl, rfl, _, rfl, ha, _, _, _, rfl, rfl, lst_at (s1 _ _ hsh), at_of (j := 5) rfl rfl, _, rfl, _, rfl, _, kk + 1, far, n, fl, rfl, hs1, by omega, hfar, fun s p H3 hfu hin s2 np hp => ?_⟩
      refine ⟨_, rfl, _, rfl, _, rfl, (by show 2 ≤ sizeLine; decide), fun kt nk => ?_⟩
      have t1 := same_new nk (.tup [V.int (i : Int), .int (j : Int)])
      have s12 := s2.trans t1
      refine ⟨d, _, rfl, DPut.t (k := keyOf (i, j)) (s12 _ _ hd) upd_same (small1000 (by omega)), ?_⟩
      have ndH : H d = none := nd
      refine ⟨putW ws (i, j) s, _, _, _, rfl, same_over (s1.trans s12) ndH _, tab_put (s12 _ _ hd) (tell_mono s12 pt) nnd ⟨p, rfl, t1 _ _ hp⟩, ?_, ?_, ?_⟩
      · have := putW_len ws (i, j) s
        omega
      · intro x hx
        rcases mem_putW hx with ⟨h1, _⟩ | rfl
        · exact hwo x h1
        · exact ⟨hi, hj, hfu⟩
      · intro x hx hl
        rcases mem_putW hx with ⟨h1, _⟩ | rfl
        · exact hwt x h1 hl
        · have hl : lyE first b.eyes b.most i = false := hl
          have z : fl = false := hly.symm.trans hl
          have := hin z
          rw [hn z] at this
          exact this
    · rintro σ H' ⟨ws, x9, x10, x11, rfl, s1, htab, hwl, hwo, hwt⟩
      exact ⟨ws, _, _, _, _, _, rfl, s1, htab, hwl, hwo, hwt⟩
  · rintro σ H' ⟨ws, x7, x8, x9, x10, x11, rfl, s1, htab, hwl, hwo, hwt⟩
    exact ⟨_, rfl, q first ws d H' hf hwo hwt (by omega) s1 nd htab⟩
def spParts (K : PySem.W.Frag) : Sp := fun vs H Q _ => ∃ (sv hv cv : V) (b : Bd) (far : Int) (c : List Int), vs = [sv, hv, cv] ∧ Scr K H sv ∧ ShapeAt H hv b far ∧ 1 ≤ far ∧ BOk b ∧ LstAt IntAt H cv c ∧ c.length = b.turns ∧
  ∀ (cl : List Pt) p H', (∀ x ∈ cl, PtOk b.turns x) → MetC cl c → cl.length ≤ 4 → Same H H' → H p = none → (∃ acc, H' p = some (.lst acc) ∧ Paired (PartAt H') acc cl) → Q (.ref p) H'
theorem df_parts (T : Tx K mg "_law_true_parts" sTrueParts) (B : Bi mg) (PK : Df P w K mg base 1 "_law_pick" ["_law_script", "_law_k", "_law_many"] (spPick K))
    (WO : Df P w K mg base 2 "_law_word" ["_law_script", "_law_k", "_law_far", "_law_number", "_law_false"] (spWord K)) : Df P w K mg base 3 "_law_true_parts" ["_law_script", "_law_shape_here", "_law_course_here"] (spParts K) := by
  refine df_mk T (fun _ _ _ _ _ _ us hl => match us, hl with | [_, _, _], _ => rfl) fun f fd F _ => ?_
  refine F.ok scTrueParts (fun vs H Q E h => ?_) (fun cdv A outer s H vs Q E hr h => ?_)
  · obtain ⟨sv, hv, cv, b, far, c, rfl, _⟩ := h
    rfl
  obtain ⟨sv, hv, cv, b, far, c, rfl, hs, ⟨ha, rfl, hsh⟩, hfar, ⟨o1, o2, o3, o4, o5, o6, o7⟩, ⟨ca, cvs, rfl, hc, pc⟩, hcl, q⟩ := h
  have ec := paired_ints pc
  subst ec
  have hr1 : Room 1 _ := hr.mono (by decide)
  refine ⟨_, pss_cons (ps_set (i := 3) scTrueParts.nd rfl (Or.inl rfl) (pe_lst pa_nil))
    (pss_cons (ps_for PassesOwn.never rfl (pi_range1 rfl B.range (pa_cons (callD PK hr1 (pa_cons (pv 0) (pa_cons pe_int (pa_cons pe_int pa_nil)))) pa_nil)) (pg_name (i := 4) scTrueParts.nd rfl (Or.inl rfl))
      (pss_cons (ps_set (i := 5) scTrueParts.nd rfl (Or.inl rfl) (pe_op op_add pe_int (pe_op op_mulB pe_int (pv 4))))
      (pss_cons (ps_set (i := 6) scTrueParts.nd rfl (Or.inl rfl) (callD PK hr1 (pa_cons (pv 0) (pa_cons (pv 5) (pa_cons (pe_ix ix_list (pv 1) pe_int (fun _ _ => rfl)) pa_nil)))))
      (pss_cons (ps_set (i := 7) scTrueParts.nd rfl (Or.inl rfl) pe_str)
      (pss_cons (ps_set (i := 8) scTrueParts.nd rfl (Or.inl rfl) (pe_ix ix_list (pv 2) (pv 6) (fun _ _ => rfl)))
      (Evl.pss_cut (ps_if (PW.pt (pw_and (pt_cmpR op_lt (pe_op op_add (pv 6) pe_int) (pe_ix ix_list (pv 1) pe_int (fun _ _ => rfl)) (nomark _)) (pw_and1 (pt_cmpR op_eq (callD PK hr1 (pa_cons (pv 0) (pa_cons (pe_op op_add (pv 5) pe_int) (pa_cons pe_int pa_nil)))) pe_int (nomark _)))))
        (pss_cons (ps_set (i := 7) scTrueParts.nd rfl (Or.inl rfl) pe_str)
        (pss_one (ps_set (i := 8) scTrueParts.nd rfl (Or.inl rfl) (pe_op op_sub (pe_ix ix_list (pv 2) (pe_op op_add (pv 6) pe_int) (fun _ _ => rfl)) (pv 8))))) pss_nil)
      (pss_one (ps_expr (pe_bm PySem.F.plainAttrs_list PySem.F.slot_list_append PySem.F.type_list_append mt_append (pv 3) (pa_cons (pe_tup (pa_cons (pv 7) (pa_cons (pv 6) (pa_cons (callD WO hr (pa_cons (pv 0) (pa_cons (pe_op op_add (pv 5) pe_int) (pa_cons (pe_ix ix_list (pv 1) pe_int (fun _ _ => rfl)) (pa_cons (pv 8) (pa_cons pe_bl pa_nil)))))) pa_nil)))) pa_nil))))))))))
    (pss_one (ps_ret (pv 3)))), ?_⟩
  refine ⟨Nat.zero_le _, fun l nl => ?_⟩
  have s0 := same_new nl (.lst [])
  refine ⟨_, rfl, _, 181, 5, rfl, scr_mono s0 hs, by decide, by decide, fun m hm => ⟨_, rfl, by omega, by omega, ?_⟩⟩
  refine for_range (lo := 0) (n := (m : Int).toNat) (fun i σ H' => ∃ (cl : List Pt) (x4 x5 x6 x7 x8 : Option V), σ = [some sv, some (.ref ha), some (.ref ca), some (.ref l), x4, x5, x6, x7, x8] ∧ Made PartAt H l cl H' ∧ cl.length ≤ i ∧ (∀ x ∈ cl, PtOk b.turns x) ∧ MetC cl c)
    ⟨[], none, none, none, none, none, rfl, made_nil nl, Nat.le_refl _, (fun _ h => by cases h), fun _ h => by cases h⟩ ?_ ?_
  · rintro i σ H' hi ⟨cl, x4, x5, x6, x7, x8, rfl, mk, hll, hpo, hme⟩
    have s1 := mk.1
    have hs1 := scr_mono s1 hs
    refine u_set ?_
    refine ⟨_, rfl, _, _, rfl, rfl, .of_left (intBits_le_64 (by decide) (by decide)), _, _, rfl, rfl, ?_⟩
    obtain ⟨kk, ekk⟩ : ∃ kk, 190 + 7 * i = kk := ⟨_, rfl⟩
    show tSeq _ _ _ _ _
    refine u_norm (σ' := [some sv, some (.ref ha), some (.ref ca), some (.ref l), some (.int (0 + (i : Int))), some (.int (kk : Int)), x6, x7, x8]) ?_ ?_
    · show [some sv, some (.ref ha), some (.ref ca), some (.ref l), some (.int (0 + (i : Int))), some (.int ((190 : Int) + 7 * (0 + (i : Int)))), x6, x7, x8] = _
      rw [show (190 : Int) + 7 * (0 + (i : Int)) = (kk : Int) by omega]
    refine u_set ?_
    refine ⟨_, rfl, _, rfl, _, rfl, ha, _, _, _, rfl, rfl, lst_at (s1 _ _ hsh), at_of (j := 1) rfl rfl, _, kk, b.turns, rfl, hs1, by omega, by omega, fun t ht => ?_⟩
    refine u_set (u_c ?_)
    refine u_set ?_
    refine ⟨_, rfl, _, rfl, ca, _, _, _, rfl, rfl, lst_at (s1 _ _ hc), at_of (j := t) rfl (ints_at (by omega)), ?_⟩
    refine ⟨fun σ H2 => H2 = H' ∧ ∃ (kd : Kd) (n : Int), PtOk b.turns (kd, t, (none, none)) ∧ n = (match kd with | .at => cAt c t | .step => cAt c (t + 1) - cAt c t) ∧ σ = [some sv, some (.ref ha), some (.ref ca), some (.ref l), some (.int (0 + (i : Int))), some (.int (kk : Int)), some (.int (t : Int)), some (.str (kdS kd)), some (.int n)], ?_, ?_⟩
    · refine ⟨_, rfl, _, _, rfl, rfl, _, rfl, ha, _, _, _, rfl, rfl, lst_at (s1 _ _ hsh), at_of (j := 1) rfl rfl, _, _, rfl, rfl, _, rfl, ?_⟩
      refine ite2 (fun c0 => ?_) (fun c0 => iteF ⟨rfl, .at, _, ht, rfl, rfl⟩)
      have c0 := of_decide_eq_true c0
      have c0 : t + 1 < b.turns := by omega
      refine ⟨_, rfl, _, rfl, _, _, rfl, rfl, _, kk + 1, 2, rfl, hs1, by omega, by decide, fun r _ => ?_⟩
      refine ⟨rfl, _, rfl, ?_⟩
      refine ite2 (fun c1 => ?_) (fun c1 => ⟨rfl, .at, _, ht, rfl, rfl⟩)
      refine ⟨_, rfl, _, rfl, _, _, rfl, rfl, ca, _, _, _, rfl, rfl, lst_at (s1 _ _ hc), at_of (j := t + 1) (by omega) (ints_at (by omega)), _, rfl, _, _, rfl, rfl, ?_⟩
      exact ⟨rfl, .step, _, c0, rfl, rfl⟩
    rintro σ H2 ⟨rfl, kd, n, hpt, hn, rfl⟩
    obtain ⟨_, acc, hl', _⟩ := id mk
    refine u_drop ?_
    refine ⟨_, rfl, .inl ⟨rfl, _, lst_at hl'⟩, ?_⟩
    refine ⟨_, rfl, _, rfl, _, rfl, _, rfl, _, _, rfl, rfl, _, rfl, ha, _, _, _, rfl, rfl, lst_at (s1 _ _ hsh), at_of (j := 5) rfl rfl, _, rfl, _, kk + 2, far, n, false, rfl, hs1, by omega, hfar, fun s p H3 hfu hin s2 np hp => ?_⟩
    refine ⟨(by show 3 ≤ sizeLine; decide), fun o no => ?_⟩
    have t1 := same_new no (.tup [V.str (kdS kd), .int (t : Int), .ref p])
    have s12 := s2.trans t1
    obtain ⟨acc3, q1, q2, q3⟩ := made_snoc mono_part nl mk s12 (yv := .ref o) (y := (kd, t, s)) (off_part _ _ _ (.ref o) (kd, t, s) (s12 _ _ hl') ⟨o, p, rfl, upd_same, t1 _ _ hp⟩) (len_lt (by omega))
    refine ⟨l, acc3, _, rfl, rfl, q1, q2, ?_⟩
    refine ⟨cl ++ [(kd, t, s)], _, _, _, _, _, rfl, q3, by rw [List.length_append, List.length_singleton]; omega, fun x hx => ?_, fun x hx => ?_⟩
    · rcases List.mem_append.mp hx with z | z
      · exact hpo x z
      · obtain rfl : x = (kd, t, s) := by simpa using z
        exact hpt
    · rcases List.mem_append.mp hx with z | z
      · exact hme x z
      · obtain rfl : x = (kd, t, s) := by simpa using z
        have h := hin rfl
        rw [hn] at h
        cases kd with
        | «at» => exact h
        | step => exact h
  · rintro σ H' ⟨cl, x4, x5, x6, x7, x8, rfl, mk, hll, hpo, hme⟩
    refine ⟨_, rfl, ?_⟩
    exact q cl l H' hpo hme (by omega) mk.1 nl (made_end mono_part mk)
end
end Gz
namespace Gz
open PySem PySem.Spec PyProof.Rows L2
theorem noF_in {n : Nat} : ((List.range n).map fun _ => true).any (fun x => x == false) = false := by
  rw [List.any_eq_false]
  intro x hx
  obtain ⟨k, _, rfl⟩ := List.mem_map.mp hx
  decide
theorem str_may : (!decide (V.str "may" = V.str "may")) = false := by decide +kernel
theorem told_perm {b : Bd} {ws ws' : List Wd} {cl : List Pt} {c : List Int} (p : ws'.Perm ws) (h : Told b ws' cl c) : Told b ws cl c := by
  obtain ⟨h1, G, h2, h3⟩ := h
  exact ⟨h1, G, h2, fun x hx => h3 x (p.mem_iff.mpr hx)⟩
def dI (i : Int) : PyData := .int i
section
variable {P : Program} {w : World} {K : PySem.W.Frag} {mg : Str → Option Value} {base : Heap} {C : Addr}
def spStays (C : Addr) : Sp := fun vs H Q _ => ∃ (bv hv : V) (d0 : Addr) (cv kv : V) (t : Nat) (b : Bd) (far : Int) (ws ws' : List Wd) (c F : List Int) (cl : List Pt), vs = [bv, hv, .ref d0, cv, kv, .int (t : Int)] ∧ BoardAt C b H bv ws' ∧ ShapeAt H hv b far ∧ TabAt H d0 ws ∧ ws'.Perm ws ∧
  LstAt IntAt H cv c ∧ LstAt PartAt H kv cl ∧ cl.length ≤ 4 ∧ (∀ p ∈ cl, PtOk b.turns p) ∧ Fitting b ws' c F ∧ Goes b cl c ∧ t < b.turns ∧ ∀ H', Same H H' → Q (.bl true) H'
theorem df_stays (T : Tx K mg "_law_stays" sStays) (B : Bi mg) (BC : BT K mg C) (ST : Df P w K mg base 6 "strips" ["board"] (spStrips C)) (PL : Df P w K mg base 6 "places" ["board", "turn"] (spPlaces C)) (FI : Df P w K mg base 3 "fits" ["board", "course"] (spFits C))
    (AS : Df P w K mg base 15 "ask" ["board", "claim"] (spAsk C)) (IN : Df P w K mg base 1 "_law_in" ["_law_span", "_law_number"] spIn) (HA : Df P w K mg base 2 "_law_has" ["_law_some", "_law_number"] spHas2)
    (WA : Df P w K mg base 3 "_law_walked" ["_law_found", "_law_shape_here", "_law_told", "_law_claim"] spWalked) (SA : Df P w K mg base 2 "_law_same" ["_law_board_here", "_law_told"] (spSame C)) :
    Df P w K mg base 16 "_law_stays" ["_law_board_here", "_law_shape_here", "_law_told", "_law_course_here", "_law_claim", "_law_turn"] (spStays C) := by
  refine df_mk T (fun _ _ _ _ _ _ us hl => match us, hl with | [_, _, _, _, _, _], _ => rfl) fun f fd F0 _ => ?_
  refine F0.ok scStays (fun vs H Q E h => ?_) (fun cdv A outer s H vs Q E hr h => ?_)
  · obtain ⟨bv, hv, d0, cv, kv, t, b, far, ws, ws', c, F, cl, rfl, _⟩ := h
    rfl
  obtain ⟨bv, hv, d0, cv, kv, t, b, far, ws, ws', c, F, cl, rfl, hb, ⟨ha, rfl, hsh⟩, htab, hperm, ⟨ca, cvs, rfl, hc, pc⟩, ⟨ka, kvs, rfl, hk, pk⟩, hk4, hok, hf, go, ht, q⟩ := h
  have ec := paired_ints pc
  subst ec
  obtain ⟨⟨o1, o2, o3, o4, o5, o6, o7⟩, hlen, htn, go0, hF, hFl, hw⟩ := id hf
  have hcl : c.length = b.turns := go.1
  have hr1 : Room 1 _ := hr.mono (by decide)
  have hr2 : Room 2 _ := hr.mono (by decide)
  have hr3 : Room 3 _ := hr.mono (by decide)
  have hr6 : Room 6 _ := hr.mono (by decide)
  refine ⟨_, pss_cons (ps_set (i := 6) scStays.nd rfl (Or.inr rfl) (callD ST hr6 (pa_cons (pv 0) pa_nil)))
    (pss_cons (ps_if (PW.pt (pw_or (pt_not (pt_val (pe_callB RZ.call_isTy (by rfl) B.isinst (by decide +kernel) (pa_cons (pv 6) (pa_cons (pe_bltn (v := .ty "list") (u := .type "list") (by rfl) B.list (by decide +kernel) rfl) pa_nil)))))
        (pw_or (pt_cmpR op_ne (pe_callB call_len_seq (by rfl) B.len PySem.boot_len (pa_cons (pv 6) pa_nil)) (pe_ix ix_list (pv 1) pe_int (fun _ _ => rfl)) (nomark _))
        (pw_or1 (pt_cmpR (op_inD (units65 hr)) pe_non (pv 6) (by rfl)))))) (pss_one (ps_ret pe_bl)) pss_nil)
    (pss_cons (ps_if (pt_cmpR op_in_seq pe_bl (pe_lc (own := [("_law_k", 10)]) (g := gName 10) (by rfl) scStays.nd (pi_range1 (by rfl) B.range (pa_cons (pe_ix ix_list (pv 1) pe_int (fun _ _ => rfl)) pa_nil))
        (blkOk_by (own := [("_law_k", 10)]) (N := ["_law_board_here", "_law_shape_here", "_law_told", "_law_course_here", "_law_claim", "_law_turn", "_law_rows", "_law_handed", "_law_parts", "_law_answer", "_law_k", "_law_span"]) (sc := defScope sStays) (by decide +kernel)) (fun _ _ _ _ _ => pg_name (i := 10) scStays.nd rfl (Or.inl rfl)) (fun _ _ _ _ _ => pts_nil)
        (fun _ _ _ _ _ => callD IN hr1 (pa_cons (pe_ix (ixL K) (pv 6) (pv 10) (fun _ _ => rfl)) (pa_cons (pe_ix (ixL K) (pv 3) (pv 10) (fun _ _ => rfl)) pa_nil)))) (by rfl)) (pss_one (ps_ret pe_bl)) pss_nil)
    (pss_cons (ps_set (i := 7) scStays.nd rfl (Or.inl rfl) (pe_callTy call_list_of (by rfl) B.list (by decide +kernel) (pa_cons (pv 3) pa_nil)))
    (pss_cons (ps_if (PW.pt (pw_or (pt_not (pt_val (callD HA hr2 (pa_cons (callD PL hr6 (pa_cons (pv 0) (pa_cons (pv 5) pa_nil))) (pa_cons (pe_ix ix_list (pv 3) (pv 5) (fun _ _ => rfl)) pa_nil)))))
        (pw_or1 (pt_cmpR op_isnot_bl (callD FI hr3 (pa_cons (pv 0) (pa_cons (pv 7) pa_nil))) pe_bl (nomark _))))) (pss_one (ps_ret pe_bl)) pss_nil)
    (pss_cons (ps_for PassesOwn.never rfl (pi_list (pe_lst (pa_cons (pv 4) (pa_cons (pe_lst pa_nil) pa_nil)))) (pg_name (i := 8) scStays.nd rfl (Or.inl rfl))
      (pss_cons (ps_set (i := 9) scStays.nd rfl (Or.inl rfl) (callD AS hr (pa_cons (pv 0) (pa_cons (pe_callTy call_list_of (by rfl) B.list (by decide +kernel) (pa_cons (pv 8) pa_nil)) pa_nil))))
      (pss_cons (ps_if (PW.pt (pw_or (pt_not (pt_val (pe_callB RZ.call_isTy (by rfl) B.isinst (by decide +kernel) (pa_cons (pv 9) (pa_cons (pe_bltn (v := .ty "tuple") (u := .type "tuple") (by rfl) B.tuple (by decide +kernel) rfl) pa_nil)))))
          (pw_or (pt_cmpR op_ne (pe_callB call_len_seq (by rfl) B.len PySem.boot_len (pa_cons (pv 9) pa_nil)) pe_int (nomark _))
          (pw_or1 (pt_cmpR op_ne (pe_ix ix_tup (pv 9) pe_int (fun _ _ => rfl)) pe_str (nomark _)))))) (pss_one (ps_ret pe_bl)) pss_nil)
      (pss_one (ps_if (pt_not (pt_val (callD WA hr3 (pa_cons (pe_ix ix_tup (pv 9) pe_int (fun _ _ => rfl)) (pa_cons (pv 1) (pa_cons (pv 2) (pa_cons (pv 8) pa_nil))))))) (pss_one (ps_ret pe_bl)) pss_nil)))))
    (pss_one (ps_ret (pe_and (pe_cmpR (op_eqD (hr.units)) (pv 7) (pv 3) (nomark _)) (pe_one (callD SA hr2 (pa_cons (pv 0) (pa_cons (pv 2) pa_nil)))))))))))), ?_⟩
  obtain ⟨a, dx, fs, d, rfl, hba, fl, tb⟩ := id hb
  refine u_set ?_
  refine ⟨_, rfl, _, b, ws', c, F, rfl, hb, hf, fun ss p H1 hssl hin s1 np hp => ?_⟩
  obtain ⟨acc, hp, pss⟩ := hp
  refine u_if1 ?_
  refine ⟨_, rfl, _, "list", rfl, .lst hp, _, rfl, iteF ?_⟩
  refine ⟨_, rfl, p, _, rfl, .inl (lst_at hp), _, rfl, ha, _, _, _, rfl, rfl, lst_at (s1 _ _ hsh), at_of (j := 1) rfl rfl, rfl, _, rfl, ?_⟩
  rw [show decide (V.int ((acc.length : Nat) : Int) = V.int (b.turns : Int)) = true from decide_eq_true (by rw [paired_len pss, hssl])]
  refine iteF ?_
  refine ⟨_, rfl, .none, ss.map dSn, .non, dp_lst K (fun v x h => dp_span K h) hp pss, shaped_none, shaped_lst dSn 1 (by decide) lay_sn (fun x => Nat.le_of_eq (dep_sn x)) _, _, rfl, ?_⟩
  rw [none_in dSn (fun x => ⟨_, rfl⟩)]
  refine iteF ?_
  refine u_if1 ?_
  show tOp _ _ _ _ _ _
  refine u_op (u_c (tLc_of ?_))
  refine ⟨_, rfl, ha, _, _, _, rfl, rfl, lst_at (s1 _ _ hsh), at_of (j := 1) rfl rfl, _, rfl, by omega, by omega, ?_⟩
  refine lc_rg (H1 := H1) mono_bl off_bl (fun _ => true) (len_lt (by omega)) (fun k H' N C0 hk0 s2 hN => ?_) (fun D H2 nD s2 hm2 => ?_)
  · have hk1 : k < b.turns := by omega
    have hks : k < ss.length := by omega
    obtain ⟨v, e2, hv⟩ := paired_at pss (List.getElem?_eq_getElem hks)
    have hin1 := hin k _ (List.getElem?_eq_getElem hks)
    refine ⟨rfl, _, rfl, _, rfl, p, acc, _, v, rfl, rfl, lst_at (s2 _ _ hp), at_of (j := k) (by omega) e2, _, rfl, _, rfl, ca, _, _, _, rfl, rfl, lst_at ((s1.trans s2) _ _ hc), at_of (j := k) (by omega) (ints_at (by omega)), _, _, _, rfl, mono_span _ _ _ _ s2 hv, ?_⟩
    refine hN _ _ (Same.refl _) ?_
    show V.bl _ = V.bl true
    rw [decide_eq_true hin1]
  obtain ⟨bacc, hD, pD⟩ := hm2
  have eb := paired_bls pD
  subst eb
  refine ⟨D, _, rfl, .inl (lst_at hD), rfl, bls_flat _, _, rfl, ?_⟩
  show if inV (.bl false) (((List.range (b.turns : Int).toNat).map fun _ => true).map V.bl) = true then _ else _
  rw [inV_bl, noF_in]
  refine iteF ?_
  refine u_set ?_
  have s02 := s1.trans s2
  refine ⟨_, rfl, ca, _, rfl, .inl (lst_at (s02 _ _ hc)), fun l nl => ?_⟩
  have s03 := s02.trans (same_new nl (.lst (c.map V.int)))
  have hl : (upd H2 l (.lst (c.map V.int))) l = some (.lst (c.map V.int)) := upd_same
  generalize upd H2 l (.lst (c.map V.int)) = H3 at *
  refine u_if1 ?_
  refine ⟨_, rfl, _, rfl, _, b, ws', c, F, t, rfl, mono_board _ _ _ _ s03 hb, hf, ht, fun ts p2 H4 hwit htl s4 np2 hp2 => ?_⟩
  obtain ⟨acc2, hp2, pts2⟩ := hp2
  have s04 := s03.trans s4
  refine ⟨_, rfl, _, rfl, ca, _, _, _, rfl, rfl, lst_at (s04 _ _ hc), at_of (j := t) rfl (ints_at (by omega)), _, cAt c t, ts, rfl, ⟨p2, acc2, rfl, hp2, pts2⟩, hwit, htl, fun H5 s5 => ⟨_, rfl, iteF ?_⟩⟩
  have s05 := s04.trans s5
  have hl5 := (s4.trans s5) _ _ hl
  refine ⟨_, rfl, _, rfl, _, _, b, ws', c, F, rfl, mono_board _ _ _ _ s05 hb, by omega, ⟨l, _, rfl, hl5, paired_ofInts c⟩, o4, htn, go0, o3, fun x hx hn => Decidable.byContradiction fun z => hn (hw x hx z), by omega, by omega, fun H6 s6 => ?_⟩
  refine ⟨true, true, rfl, rfl, _, rfl, iteF ?_⟩
  have s06 := s05.trans s6
  have hl6 := s6 _ _ hl5
  refine ⟨_, rfl, Nat.zero_le _, fun e ne => ⟨(by show 2 ≤ sizeLine; decide), fun xl nxl => ?_⟩⟩
  have s07 := (s06.trans (same_new ne (.lst []))).trans (same_new nxl (.lst [V.ref ka, .ref e]))
  have hl7 := (same_new nxl (.lst [V.ref ka, .ref e])) _ _ ((same_new ne (.lst [])) _ _ hl6)
  have he7 : (upd (upd H6 e (.lst [])) xl (.lst [V.ref ka, .ref e])) e = some (.lst []) := (same_new nxl (.lst [V.ref ka, .ref e])) _ _ upd_same
  have hx7 : (upd (upd H6 e (.lst [])) xl (.lst [V.ref ka, .ref e])) xl = some (.lst [V.ref ka, .ref e]) := upd_same
  generalize upd (upd H6 e (.lst [])) xl (.lst [V.ref ka, .ref e]) = H7 at *
  have hcls : ∀ x ∈ [V.ref ka, V.ref e], ∃ (xa : Addr) (xvs : List V) (clx : List Pt), x = .ref xa ∧ H7 xa = some (.lst xvs) ∧ Paired (PartAt H7) xvs clx ∧ (∀ p ∈ clx, PtOk b.turns p) ∧ Goes b clx c := fun x hx => by
    rcases List.mem_cons.mp hx with rfl | hx
    · exact ⟨ka, _, cl, rfl, s07 _ _ hk, paired_mono mono_part s07 pk, hok, go⟩
    · obtain rfl : x = V.ref e := by simpa using hx
      exact ⟨e, [], [], rfl, he7, .nil, (fun p hp => by cases hp), go0⟩
  refine ⟨xl, rfl, ⟨_, lst_at hx7⟩, for_list (K := K) (a := xl) (xs := [V.ref ka, .ref e]) (fun i σ H' => ∃ x8 x9, σ = [some (.ref a), some (.ref ha), some (.ref d0), some (.ref ca), some (.ref ka), some (.int (t : Int)), some (.ref p), some (.ref l), x8, x9, none, none] ∧ Same H7 H')
    ⟨none, none, rfl, Same.refl _⟩ (fun i σ H' _ ⟨_, _, _, s⟩ => lst_at (s _ _ hx7)) ?_ ?_⟩
  · rintro i x σ H' hx ⟨x8, x9, rfl, s8⟩
    obtain ⟨xa, xvs, clx, rfl, hxa, pxa, hokx, gox⟩ := hcls x (List.mem_of_getElem? hx)
    have s08 := s07.trans s8
    refine u_set ?_
    refine ⟨_, rfl, _, rfl, xa, xvs, rfl, .inl (lst_at (s8 _ _ hxa)), fun l2 nl2 => ?_⟩
    have t9 := same_new nl2 (.lst xvs)
    have s09 := s08.trans t9
    refine ⟨_, _, b, ws', clx, c, F, rfl, mono_board _ _ _ _ s09 hb, ⟨l2, xvs, rfl, upd_same, paired_mono mono_part (s8.trans t9) pxa⟩, hokx, hf, gox, fun c' r q2 H8 told s10 nr hr8 hq8 => ?_⟩
    have s010 := s09.trans s10
    refine u_if1 ?_
    refine ⟨_, rfl, _, "tuple", rfl, .tup hr8, _, rfl, iteF ?_⟩
    refine ⟨_, rfl, r, _, rfl, .inr (tup_at hr8), rfl, _, rfl, iteF ?_⟩
    refine ⟨_, rfl, r, _, _, _, rfl, rfl, tup_at hr8, rfl, rfl, _, rfl, ?_⟩
    rw [str_may]
    refine iteF ?_
    refine ⟨_, rfl, r, _, _, _, rfl, rfl, tup_at hr8, rfl, _, rfl, _, rfl, _, rfl, q2, _, _, d0, b, far, ws, clx, c', rfl, hq8, ⟨ha, rfl, s010 _ _ hsh⟩, ⟨o1, o2, o3, o4, o5, o6, o7⟩, tab_mono s010 htab, fun x hx => htn x (hperm.mem_iff.mpr hx), ⟨xa, xvs, rfl, ((s8.trans t9).trans s10) _ _ hxa, paired_mono mono_part ((s8.trans t9).trans s10) pxa⟩, hokx, told_perm hperm told, fun H9 s11 => ⟨_, rfl, iteF ?_⟩⟩
    exact ⟨_, _, rfl, ((s8.trans t9).trans s10).trans s11⟩
  · rintro σ H' ⟨x8, x9, rfl, s8⟩
    have s08 := s07.trans s8
    have int_dp : ∀ (H : Hp) (v : V) (x : Int), IntAt H v x → Dp K H v (dI x) := fun H v x h => by
      cases h
      exact .int _
    have lay_dI : ∀ x, (dI x).canLay0 = true := fun x => by simp [dI, PyData.canLay0]
    have dep_dI : ∀ x, (dI x).depth ≤ 0 := fun x => by simp [dI, PyData.depth]
    refine ⟨_, rfl, _, rfl, _, _, dp_lst K (int_dp H') (s8 _ _ hl7) (paired_ofInts c), dp_lst K (int_dp H') (s08 _ _ hc) (paired_ofInts c), shaped_lst dI 0 (by decide) lay_dI dep_dI _, shaped_lst dI 0 (by decide) lay_dI dep_dI _, ?_⟩
    rw [PySem.SeqAt.eqv_refl _ (lay_all dI lay_dI _)]
    refine ⟨_, rfl, iteT ?_⟩
    refine ⟨_, rfl, _, rfl, _, d0, b, ws, ws', rfl, mono_board _ _ _ _ s08 hb, tab_mono s08 htab, hperm, by rw [← hperm.length_eq]; omega, fun H9 s9 => ?_⟩
    exact q H9 (s08.trans s9)
end
end Gz
namespace Gz
open PySem PySem.Spec PyProof.Rows L2
theorem putW_perm {a b : List Wd} (p : a.Perm b) (k : Nat × Nat) (s : Sn) : (putW a k s).Perm (putW b k s) := by
  unfold putW
  have e : (a.any fun x => decide (x.1 = k)) = (b.any fun x => decide (x.1 = k)) := by
    rw [Bool.eq_iff_iff, List.any_eq_true, List.any_eq_true]
    exact ⟨fun ⟨x, hx, h⟩ => ⟨x, p.mem_iff.mp hx, h⟩, fun ⟨x, hx, h⟩ => ⟨x, p.mem_iff.mpr hx, h⟩⟩
  rw [e]
  split
  · exact p.map _
  · exact p.append_right _
theorem putW_self (ws : List Wd) (k : Nat × Nat) (s : Sn) : (k, s) ∈ putW ws k s := by
  unfold putW
  split
  · rename_i h
    obtain ⟨x, hx, e⟩ := List.any_eq_true.mp h
    have e : x.1 = k := of_decide_eq_true e
    exact List.mem_map.mpr ⟨x, hx, by rw [if_pos e, e]⟩
  · exact List.mem_append.mpr (.inr (List.mem_singleton.mpr rfl))
/-- all but what stands at d is kept -/
def Off (d : Addr) (H H' : Hp) : Prop := ∀ x o, H x = some o → x ≠ d → H' x = some o
theorem Off.old {d : Addr} {H0 H H' : Hp} (o : Off d H H') (s : Same H0 H) (n : H0 d = none) : Same H0 H' := fun x u e => o x u (s _ _ e) (ne_of_none e n)
section
variable {d : Addr} {H H' : Hp} {kvs : List (List Key × V)}
theorem Off.lst (o : Off d H H') (hd : H d = some (.dT kvs)) {a : Addr} {xs : List V} (h : H a = some (.lst xs)) : H' a = some (.lst xs) := o _ _ h (ne_of h hd (by intro z; cases z))
theorem Off.tup (o : Off d H H') (hd : H d = some (.dT kvs)) {a : Addr} {xs : List V} (h : H a = some (.tup xs)) : H' a = some (.tup xs) := o _ _ h (ne_of h hd (by intro z; cases z))
theorem Off.parts (o : Off d H H') (hd : H d = some (.dT kvs)) : ∀ {vs : List V} {cl : List Pt}, Paired (PartAt H) vs cl → Paired (PartAt H') vs cl
  | _, _, .nil => .nil
  | _, _, .cons ⟨a, b, e, h1, h2⟩ t => .cons ⟨a, b, e, o.tup hd h1, o.tup hd h2⟩ (o.parts hd t)
theorem Off.tells (o : Off d H H') (hd : H d = some (.dT kvs)) : ∀ {vs : List (List Key × V)} {ws : List Wd}, Paired (TellAt H) vs ws → Paired (TellAt H') vs ws
  | _, _, .nil => .nil
  | _, _, .cons ⟨r, a, e, h⟩ t => .cons ⟨r, a, e, o.tup hd h⟩ (o.tells hd t)
theorem Off.tab (o : Off d H H') (hd : H d = some (.dT kvs)) {d2 : Addr} (n : d2 ≠ d) {ws : List Wd} (h : TabAt H d2 ws) : TabAt H' d2 ws := by
  obtain ⟨k2, h1, h2, h3⟩ := h
  exact ⟨k2, o _ _ h1 n, o.tells hd h2, h3⟩
end
section
variable {P : Program} {w : World} {K : PySem.W.Frag} {mg : Str → Option Value} {base : Heap} {C : Addr}
def spLaw (K : PySem.W.Frag) : Sp := fun vs H Q _ => ∃ sv : V, vs = [sv] ∧ Scr K H sv ∧ ∀ H', Q (.bl true) H'
theorem ok_law {f : Addr} {fd : FuncData} (F0 : Fun K "law" "law" sLaw f fd) (BC : BT K mg C) (PK : Df P w K mg base 1 "_law_pick" ["_law_script", "_law_k", "_law_many"] (spPick K)) (SH : Df P w K mg base 3 "_law_shape" ["_law_script"] (spShape K)) (CO : Df P w K mg base 3 "_law_course" ["_law_script", "_law_shape_here"] (spCourse K))
    (MO : Df P w K mg base 3 "_law_mostly" ["_law_script", "_law_shape_here", "_law_course_here"] (spMostly K)) (TP : Df P w K mg base 3 "_law_true_parts" ["_law_script", "_law_shape_here", "_law_course_here"] (spParts K)) (BO : Df P w K mg base 3 "_law_board" ["_law_script", "_law_shape_here", "_law_told"] (spBoard K C))
    (WO : Df P w K mg base 2 "_law_word" ["_law_script", "_law_k", "_law_far", "_law_number", "_law_false"] (spWord K)) (TE : Dm P w K mg base C 2 "tell" ["self", "eye", "turn", "lo", "hi"] (spTell C))
    (SY : Df P w K mg base 16 "_law_stays" ["_law_board_here", "_law_shape_here", "_law_told", "_law_course_here", "_law_claim", "_law_turn"] (spStays C)) :
    FnOk P w K mg base CX0 17 f fd ["_law_script"] (spLaw K) := by
  obtain ⟨fT, fdT, FT, mT, bT⟩ := TE
  refine F0.ok scLaw (fun vs H Q E h => ?_) (fun cdv A outer s H vs Q E hr h => ?_)
  · obtain ⟨sv, rfl, _⟩ := h
    rfl
  obtain ⟨sv, rfl, hs, q⟩ := h
  have hr1 : Room 1 _ := hr.mono (by decide)
  have hr2 : Room 2 _ := hr.mono (by decide)
  have hr3 : Room 3 _ := hr.mono (by decide)
  have hu := hu_of hr
  refine ⟨_, pss_cons (ps_set (i := 1) scLaw.nd rfl (Or.inl rfl) (callD SH hr3 (pa_cons (pv 0) pa_nil)))
    (pss_cons (ps_set (i := 2) scLaw.nd rfl (Or.inl rfl) (callD CO hr3 (pa_cons (pv 0) (pa_cons (pv 1) pa_nil))))
    (pss_cons (ps_set (i := 3) scLaw.nd rfl (Or.inl rfl) (callD MO hr3 (pa_cons (pv 0) (pa_cons (pv 1) (pa_cons (pv 2) pa_nil)))))
    (pss_cons (ps_set (i := 4) scLaw.nd rfl (Or.inl rfl) (callD TP hr3 (pa_cons (pv 0) (pa_cons (pv 1) (pa_cons (pv 2) pa_nil)))))
    (pss_cons (ps_set (i := 5) scLaw.nd rfl (Or.inl rfl) (callD BO hr3 (pa_cons (pv 0) (pa_cons (pv 1) (pa_cons (pv 3) pa_nil)))))
    (pss_cons (ps_set (i := 6) scLaw.nd rfl (Or.inl rfl) (callD PK hr1 (pa_cons (pv 0) (pa_cons pe_int (pa_cons (pe_ix ix_list (pv 1) pe_int (fun _ _ => rfl)) pa_nil)))))
    (pss_cons (ps_if (pt_not (pt_val (callD SY hr (pa_cons (pv 5) (pa_cons (pv 1) (pa_cons (pv 3) (pa_cons (pv 2) (pa_cons (pv 4) (pa_cons (pv 6) pa_nil))))))))) (pss_one (ps_ret pe_bl)) pss_nil)
    (pss_cons (ps_set (i := 7) scLaw.nd rfl (Or.inl rfl) (pe_tup (pa_cons (callD PK hr1 (pa_cons (pv 0) (pa_cons pe_int (pa_cons (pe_ix ix_list (pv 1) pe_int (fun _ _ => rfl)) pa_nil)))) (pa_cons (callD PK hr1 (pa_cons (pv 0) (pa_cons pe_int (pa_cons (pe_ix ix_list (pv 1) pe_int (fun _ _ => rfl)) pa_nil)))) pa_nil))))
    (pss_cons (ps_dput hu (pv 3) (pv 7) (callD WO hr2 (pa_cons (pv 0) (pa_cons pe_int (pa_cons (pe_ix ix_list (pv 1) pe_int (fun _ _ => rfl)) (pa_cons (pe_ix ix_list (pv 2) (pe_ix ix_tup (pv 7) pe_int (fun _ _ => rfl)) (fun _ _ => rfl)) (pa_cons pe_bl pa_nil)))))) rfl)
    (pss_cons (ps_expr (pe_meth (pv 5) BC.cl mT FT hr2 bT .nil pass0 (pa_cons (pe_ix ix_tup (pv 7) pe_int (fun _ _ => rfl)) (pa_cons (pe_ix ix_tup (pv 7) pe_int (fun _ _ => rfl))
        (pa_cons (pe_ix ix_tup (pe_dget hu (pv 3) (pv 7) (fun _ _ => rfl)) pe_int (fun _ _ => rfl)) (pa_cons (pe_ix ix_tup (pe_dget hu (pv 3) (pv 7) (fun _ _ => rfl)) pe_int (fun _ _ => rfl)) pa_nil))))))
    (pss_one (ps_ret (callD SY hr (pa_cons (pv 5) (pa_cons (pv 1) (pa_cons (pv 3) (pa_cons (pv 2) (pa_cons (pv 4) (pa_cons (pe_ix ix_tup (pv 7) pe_int (fun _ _ => rfl)) pa_nil)))))))))))))))))), ?_⟩
  refine u_set ?_
  refine ⟨_, rfl, sv, rfl, hs, fun b far sp H1 ok hfar s1 nsp hsp => ?_⟩
  refine u_set ?_
  refine ⟨_, rfl, _, rfl, sv, _, b, far, rfl, scr_mono s1 hs, ⟨sp, rfl, hsp⟩, ok, fun c cp H2 go0 s2 ncp hcp => ?_⟩
  have hcl : c.length = b.turns := go0.1
  have s12 := s1.trans s2
  have hsp2 := s2 _ _ hsp
  refine u_set ?_
  refine ⟨_, rfl, _, rfl, _, rfl, sv, _, _, b, far, c, rfl, scr_mono s12 hs, ⟨sp, rfl, hsp2⟩, hfar, ok, ⟨cp, _, rfl, hcp, paired_ofInts c⟩, hcl, fun first ws d0 H3 hfirst wok wtrue hwl s3 nd0 htab3 => ?_⟩
  have s13 := s12.trans s3
  have hsp3 := s3 _ _ hsp2
  have hcp3 := s3 _ _ hcp
  refine u_set ?_
  refine ⟨_, rfl, _, rfl, _, rfl, sv, _, _, b, far, c, rfl, scr_mono s13 hs, ⟨sp, rfl, hsp3⟩, hfar, ok, ⟨cp, _, rfl, hcp3, paired_ofInts c⟩, hcl, fun cl kp H4 hpo hme hl4 s4 nkp hkp => ?_⟩
  obtain ⟨kvs, hkp, pk⟩ := hkp
  have s14 := s13.trans s4
  have hsp4 := s4 _ _ hsp3
  have hcp4 := s4 _ _ hcp3
  have htab4 := tab_mono s4 htab3
  refine u_set ?_
  refine ⟨_, rfl, _, rfl, _, rfl, sv, _, d0, b, far, ws, rfl, scr_mono s14 hs, ⟨sp, rfl, hsp4⟩, ok, htab4, wok, by omega, fun ws' a d H5 hperm hbd s5 na nd => ?_⟩
  have nd0d : d0 ≠ d := by
    obtain ⟨tk, hd0, _⟩ := htab4
    exact ne_of_none hd0 nd
  have s15 := s14.trans s5
  have hsp5 := s5 _ _ hsp4
  have hcp5 := s5 _ _ hcp4
  have hkp5 := s5 _ _ hkp
  have pk5 := paired_mono mono_part s5 pk
  have htab5 := tab_mono s5 htab4
  have hlen' : ws'.length ≤ 24 := by rw [hperm.length_eq]; exact hwl
  obtain ⟨o1, o2, o3, o4, o5, o6, o7⟩ := id ok
  have go : Goes b cl c := ⟨go0.1, go0.2.1, hme⟩
  have mkF : ∀ W : List Wd, W.length ≤ 100 → (∀ x ∈ W, x.1.1 < b.eyes ∧ x.1.2 < b.turns) → (∀ x ∈ W, lyE first b.eyes b.most x.1.1 = false → In x.2 (cAt c x.1.2)) → Fitting b W c (pick (lyE first b.eyes b.most) b.eyes) := fun W h1 h2 h3 => by
    refine ⟨ok, h1, fun x hx => (h2 x hx).2, go0, pick_mem _ _, ly_count _ o2 _ hfirst _ o7, fun x hx hn => h3 x hx ?_⟩
    cases e : lyE first b.eyes b.most x.1.1 with
    | false => rfl
    | true => exact absurd (mem_pick.mpr ⟨x.1.1, (h2 x hx).1, e, rfl⟩) hn
  have wok' : ∀ x ∈ ws', x.1.1 < b.eyes ∧ x.1.2 < b.turns := fun x hx => by
    have h := wok x (hperm.mem_iff.mp hx)
    exact ⟨h.1, h.2.1⟩
  have wtrue' : ∀ x ∈ ws', lyE first b.eyes b.most x.1.1 = false → In x.2 (cAt c x.1.2) := fun x hx => wtrue x (hperm.mem_iff.mp hx)
  refine u_set ?_
  refine ⟨_, rfl, _, rfl, sp, _, _, _, rfl, rfl, lst_at hsp5, at_of (j := 1) rfl rfl, sv, 182, b.turns, rfl, scr_mono s15 hs, by decide, by omega, fun t ht => ?_⟩
  refine u_if1 ?_
  refine ⟨_, rfl, _, rfl, _, rfl, _, rfl, _, rfl, _, rfl, .ref a, _, d0, _, _, t, b, far, ws, ws', c, _, cl, rfl, hbd.at', ⟨sp, rfl, hsp5⟩, htab5, hperm, ⟨cp, _, rfl, hcp5, paired_ofInts c⟩, ⟨kp, kvs, rfl, hkp5, pk5⟩, hl4, hpo, mkF ws' (by omega) wok' wtrue', go, ht, fun H6 s6 => ⟨_, rfl, iteF ?_⟩⟩
  have s16 := s15.trans s6
  refine u_set ?_
  refine ⟨_, rfl, _, rfl, sp, _, _, _, rfl, rfl, lst_at (s6 _ _ hsp5), at_of (j := 0) rfl rfl, sv, 183, b.eyes, rfl, scr_mono s16 hs, by decide, by omega, fun e he => ?_⟩
  refine ⟨_, rfl, _, rfl, sp, _, _, _, rfl, rfl, lst_at (s6 _ _ hsp5), at_of (j := 1) rfl rfl, sv, 184, b.turns, rfl, scr_mono s16 hs, by decide, by omega, fun u hut => ?_⟩
  refine ⟨(by show 2 ≤ sizeLine; decide), fun o no => ?_⟩
  have t7 := same_new no (.tup [V.int (e : Int), .int (u : Int)])
  have ho7 : (upd H6 o (.tup [V.int (e : Int), .int (u : Int)])) o = some (.tup [V.int (e : Int), .int (u : Int)]) := upd_same
  generalize upd H6 o (.tup [V.int (e : Int), .int (u : Int)]) = H7 at *
  have s57 := s6.trans t7
  have s17 := s15.trans s57
  refine ⟨_, rfl, _, rfl, sp, _, _, _, rfl, rfl, lst_at (s57 _ _ hsp5), at_of (j := 5) rfl rfl, _, rfl, _, rfl, o, _, _, _, rfl, rfl, tup_at ho7, rfl, cp, _, _, _, rfl, rfl, lst_at (s57 _ _ hcp5), at_of (j := u) rfl (ints_at (by omega)), sv, 185, far, cAt c u, false, rfl, scr_mono s17 hs, by decide, hfar, fun sn wp H8 fu hin s8 nwp hwp => ?_⟩
  have s58 := s57.trans s8
  have ho8 := s8 _ _ ho7
  obtain ⟨tk, hd0, pt, ndk⟩ := tab_mono s58 htab5
  have htl : tk.length ≤ 1000 := by
    rw [paired_len pt]
    omega
  refine ⟨_, rfl, _, rfl, d0, _, rfl, DPut.t (k := keyOf (e, u)) hd0 ho8 (small1000 htl), ?_⟩
  have off9 : Off d0 H8 (upd H8 d0 (.dT (putK tk (keyOf (e, u)) (.ref wp)))) := fun x w ex hx => by
    rw [upd_ne hx]
    exact ex
  have tab9 := tab_put (k := (e, u)) hd0 pt ndk (v := .ref wp) (s := sn) ⟨wp, rfl, hwp⟩
  generalize upd H8 d0 (.dT (putK tk (keyOf (e, u)) (.ref wp))) = H9 at *
  obtain ⟨dx, fs, hba, fl, tb⟩ := hbd
  have hba8 := s58 _ _ hba
  have hba9 := off9 _ _ hba8 (ne_of hba8 hd0 (by intro z; cases z))
  have tb9 := off9.tab hd0 nd0d.symm (tab_mono s58 tb)
  have ho9 := off9.tup hd0 ho8
  have hsp9 := off9.lst hd0 (s58 _ _ hsp5)
  have hcp9 := off9.lst hd0 (s58 _ _ hcp5)
  have hkp9 := off9.lst hd0 (s58 _ _ hkp5)
  have pk9 := off9.parts hd0 (paired_mono mono_part s58 pk5)
  obtain ⟨tk9, hd9, pt9, nd9⟩ := id tab9
  obtain ⟨v, hv1, sa, rfl, hv2⟩ := valV_told pt9 (putW_self ws (e, u) sn) nd9
  have g9 : DGet H9 d0 (.ref o) (some (.ref sa)) := by
    have g := DGet.t (k := keyOf (e, u)) hd9 ho9
    rw [hv1] at g
    exact g
  refine ⟨_, rfl, a, dx, fs, rfl, hba9, fl.nTell, _, rfl, o, _, _, _, rfl, rfl, tup_at ho9, rfl, _, rfl, o, _, _, _, rfl, rfl, tup_at ho9, rfl, _, rfl, _, rfl, d0, .ref sa, rfl, g9, sa, _, _, _, rfl, rfl, tup_at hv2, rfl, _, rfl, _, rfl, d0, .ref sa, rfl, g9, sa, _, _, _, rfl, rfl, tup_at hv2, rfl, ?_⟩
  refine ⟨a, d, b, ws', e, u, sn, rfl, ⟨dx, fs, hba9, fl, tb9⟩, he, hut, fu, by omega, fun H10 b10 fr10 => ?_⟩
  obtain ⟨bk, hdb, _⟩ := tb9
  have off10 : Off d H9 H10 := fr10
  refine ⟨_, rfl, _, rfl, _, rfl, _, rfl, _, rfl, _, rfl, o, _, _, _, rfl, rfl, tup_at (off10.tup hdb ho9), rfl, ?_⟩
  refine ⟨.ref a, _, d0, _, _, u, b, far, putW ws (e, u) sn, putW ws' (e, u) sn, c, _, cl, rfl, b10.at', ⟨sp, rfl, off10.lst hdb hsp9⟩, off10.tab hdb nd0d tab9, putW_perm hperm _ _, ⟨cp, _, rfl, off10.lst hdb hcp9, paired_ofInts c⟩, ⟨kp, kvs, rfl, off10.lst hdb hkp9, off10.parts hdb pk9⟩, hl4, hpo, mkF _ ?_ (fun x hx => ?_) (fun x hx hl => ?_), go, hut, fun H11 _ => q H11⟩
  · have := putW_len ws' (e, u) sn
    omega
  · rcases mem_putW hx with ⟨h1, _⟩ | rfl
    · exact wok' x h1
    · exact ⟨he, hut⟩
  · rcases mem_putW hx with ⟨h1, _⟩ | rfl
    · exact wtrue' x h1 hl
    · exact hin rfl
end
end Gz
namespace Gz
open PySem PySem.Spec PyProof.Rows L2
def loose1 : List Str := ["_wall", "rise", "clash", "clashing", "room_at", "tube", "course_in", "GazeError", "NoBoard", "NoTelling", "NoClaim", "holds", "meet", "lo_rank", "joins", "later_end", "gathered", "hull", "ask_parts", "in_common", "paces", "wanted", "liars", "fits", "eyes_aside", "marks_without"]
def loose2 : List Str := ["all_tubes", "places", "strips", "EYES", "TURNS", "Board", "marks_of", "search_on", "ask", "_law_pick", "_law_wide", "_law_shape", "_law_course", "_law_word", "_law_board", "_law_in", "_law_whole", "_law_liars", "_law_met", "_law_walked", "_law_same", "_law_mostly", "_law_true_parts", "_law_has", "_law_stays"]
def dRise : He.DefD := ⟨("rise", none), "rise", "rise", defArgs sRise, defBody sRise, defScope sRise, [], []⟩
def dClash : He.DefD := ⟨("clash", none), "clash", "clash", defArgs sClash, defBody sClash, defScope sClash, [], []⟩
def dClashing : He.DefD := ⟨("clashing", none), "clashing", "clashing", defArgs sClashing, defBody sClashing, defScope sClashing, [], []⟩
def dRoomAt : He.DefD := ⟨("room_at", none), "room_at", "room_at", defArgs sRoomAt, defBody sRoomAt, defScope sRoomAt, [], []⟩
def dTube : He.DefD := ⟨("tube", none), "tube", "tube", defArgs sTube, defBody sTube, defScope sTube, [], []⟩
def dCourseIn : He.DefD := ⟨("course_in", none), "course_in", "course_in", defArgs sCourseIn, defBody sCourseIn, defScope sCourseIn, [], []⟩
def dHolds : He.DefD := ⟨("holds", none), "holds", "holds", defArgs sHolds, defBody sHolds, defScope sHolds, [], []⟩
def dMeet : He.DefD := ⟨("meet", none), "meet", "meet", defArgs sMeet, defBody sMeet, defScope sMeet, [], []⟩
def dLoRank : He.DefD := ⟨("lo_rank", none), "lo_rank", "lo_rank", defArgs sLoRank, defBody sLoRank, defScope sLoRank, [], []⟩
def dJoins : He.DefD := ⟨("joins", none), "joins", "joins", defArgs sJoins, defBody sJoins, defScope sJoins, [], []⟩
def dLaterEnd : He.DefD := ⟨("later_end", none), "later_end", "later_end", defArgs sLaterEnd, defBody sLaterEnd, defScope sLaterEnd, [], []⟩
def dGathered : He.DefD := ⟨("gathered", none), "gathered", "gathered", defArgs sGathered, defBody sGathered, defScope sGathered, [], []⟩
def dHull : He.DefD := ⟨("hull", none), "hull", "hull", defArgs sHull, defBody sHull, defScope sHull, [], []⟩
def dAskParts : He.DefD := ⟨("ask_parts", none), "ask_parts", "ask_parts", defArgs sAskParts, defBody sAskParts, defScope sAskParts, [], []⟩
def dInCommon : He.DefD := ⟨("in_common", none), "in_common", "in_common", defArgs sInCommon, defBody sInCommon, defScope sInCommon, [], []⟩
def dPaces : He.DefD := ⟨("paces", none), "paces", "paces", defArgs sPaces, defBody sPaces, defScope sPaces, [], []⟩
def dWanted : He.DefD := ⟨("wanted", none), "wanted", "wanted", defArgs sWanted, defBody sWanted, defScope sWanted, [], []⟩
def dLiars : He.DefD := ⟨("liars", none), "liars", "liars", defArgs sLiars, defBody sLiars, defScope sLiars, [], []⟩
def dFits : He.DefD := ⟨("fits", none), "fits", "fits", defArgs sFits, defBody sFits, defScope sFits, [], []⟩
def dEyesAside : He.DefD := ⟨("eyes_aside", none), "eyes_aside", "eyes_aside", defArgs sEyesAside, defBody sEyesAside, defScope sEyesAside, [], []⟩
def dMarksWithout : He.DefD := ⟨("marks_without", none), "marks_without", "marks_without", defArgs sMarksWithout, defBody sMarksWithout, defScope sMarksWithout, [], []⟩
def dAllTubes : He.DefD := ⟨("all_tubes", none), "all_tubes", "all_tubes", defArgs sAllTubes, defBody sAllTubes, defScope sAllTubes, [], []⟩
def dPlaces : He.DefD := ⟨("places", none), "places", "places", defArgs sPlaces, defBody sPlaces, defScope sPlaces, [], []⟩
def dStrips : He.DefD := ⟨("strips", none), "strips", "strips", defArgs sStrips, defBody sStrips, defScope sStrips, [], []⟩
def dMarksOf : He.DefD := ⟨("marks_of", none), "marks_of", "marks_of", defArgs sMarksOf, defBody sMarksOf, defScope sMarksOf, [], []⟩
def dSearchOn : He.DefD := ⟨("search_on", none), "search_on", "search_on", defArgs sSearchOn, defBody sSearchOn, defScope sSearchOn, [], []⟩
def dAsk : He.DefD := ⟨("ask", none), "ask", "ask", defArgs sAsk, defBody sAsk, defScope sAsk, [], []⟩
def dPick : He.DefD := ⟨("_law_pick", none), "_law_pick", "_law_pick", defArgs sPick, defBody sPick, defScope sPick, [], []⟩
def dWide : He.DefD := ⟨("_law_wide", none), "_law_wide", "_law_wide", defArgs sWide, defBody sWide, defScope sWide, [], []⟩
def dShape : He.DefD := ⟨("_law_shape", none), "_law_shape", "_law_shape", defArgs sShape, defBody sShape, defScope sShape, [], []⟩
def dCourse : He.DefD := ⟨("_law_course", none), "_law_course", "_law_course", defArgs sCourse, defBody sCourse, defScope sCourse, [], []⟩
def dWord : He.DefD := ⟨("_law_word", none), "_law_word", "_law_word", defArgs sWord, defBody sWord, defScope sWord, [], []⟩
def dBoard : He.DefD := ⟨("_law_board", none), "_law_board", "_law_board", defArgs sBoard, defBody sBoard, defScope sBoard, [], []⟩
def dIn : He.DefD := ⟨("_law_in", none), "_law_in", "_law_in", defArgs sIn, defBody sIn, defScope sIn, [], []⟩
def dWhole : He.DefD := ⟨("_law_whole", none), "_law_whole", "_law_whole", defArgs sWhole, defBody sWhole, defScope sWhole, [], []⟩
def dLLiars : He.DefD := ⟨("_law_liars", none), "_law_liars", "_law_liars", defArgs sLLiars, defBody sLLiars, defScope sLLiars, [], []⟩
def dMet : He.DefD := ⟨("_law_met", none), "_law_met", "_law_met", defArgs sMet, defBody sMet, defScope sMet, [], []⟩
def dWalked : He.DefD := ⟨("_law_walked", none), "_law_walked", "_law_walked", defArgs sWalked, defBody sWalked, defScope sWalked, [], []⟩
def dSame : He.DefD := ⟨("_law_same", none), "_law_same", "_law_same", defArgs sSame, defBody sSame, defScope sSame, [], []⟩
def dMostly : He.DefD := ⟨("_law_mostly", none), "_law_mostly", "_law_mostly", defArgs sMostly, defBody sMostly, defScope sMostly, [], []⟩
def dTrueParts : He.DefD := ⟨("_law_true_parts", none), "_law_true_parts", "_law_true_parts", defArgs sTrueParts, defBody sTrueParts, defScope sTrueParts, [], []⟩
def dHas2 : He.DefD := ⟨("_law_has", none), "_law_has", "_law_has", defArgs sHas2, defBody sHas2, defScope sHas2, [], []⟩
def dStays : He.DefD := ⟨("_law_stays", none), "_law_stays", "_law_stays", defArgs sStays, defBody sStays, defScope sStays, [], []⟩
def dLaw : He.DefD := ⟨("law", none), "law", "law", defArgs sLaw, defBody sLaw, defScope sLaw, [], []⟩
def dInit : He.DefD := ⟨("Board", some "__init__"), "__init__", "Board.__init__", defArgs sInit, defBody sInit, defScope sInit, [], []⟩
def dHas : He.DefD := ⟨("Board", some "has"), "has", "Board.has", defArgs sHas, defBody sHas, defScope sHas, [], []⟩
def dTell : He.DefD := ⟨("Board", some "tell"), "tell", "Board.tell", defArgs sTell, defBody sTell, defScope sTell, [], []⟩
def dTellings : He.DefD := ⟨("Board", some "tellings"), "tellings", "Board.tellings", defArgs sTellings, defBody sTellings, defScope sTellings, [], []⟩
def fn1 : List He.DefD := [dRise, dClash, dClashing, dRoomAt, dTube, dCourseIn, dHolds, dMeet, dLoRank, dJoins, dLaterEnd, dGathered, dHull, dAskParts, dInCommon, dPaces, dWanted, dLiars, dFits, dEyesAside, dMarksWithout, dAllTubes, dPlaces, dStrips]
def fn2 : List He.DefD := [dMarksOf, dSearchOn, dAsk, dPick, dWide, dShape, dCourse, dWord, dBoard, dIn, dWhole, dLLiars, dMet, dWalked, dSame, dMostly, dTrueParts, dHas2, dStays, dLaw, dInit, dHas, dTell, dTellings]
def fn : List He.DefD := fn1 ++ fn2
def fa1 : List He.Fa := [.glo "rise", .glo "clash", .glo "clashing", .glo "room_at", .glo "tube", .glo "course_in", .glo "holds", .glo "meet", .glo "lo_rank", .glo "joins", .glo "later_end", .glo "gathered", .glo "hull", .glo "ask_parts", .glo "in_common", .glo "paces", .glo "wanted", .glo "liars", .glo "fits", .glo "eyes_aside", .glo "marks_without", .glo "all_tubes", .glo "places", .glo "strips", .glo "marks_of", .glo "search_on", .glo "ask", .glo "_law_pick", .glo "_law_wide", .glo "_law_shape", .glo "_law_course", .glo "_law_word", .glo "_law_board", .glo "_law_in", .glo "_law_whole", .glo "_law_liars"]
def fa2 : List He.Fa := [.glo "_law_met", .glo "_law_walked", .glo "_law_same", .glo "_law_mostly", .glo "_law_true_parts", .glo "_law_has", .glo "_law_stays", .glo "law", .free "sum", .free "range", .free "len", .free "max", .free "min", .free "sorted", .free "list", .free "isinstance", .free "int", .free "bool", .free "tuple", .int "EYES" 7, .int "TURNS" 12, .glo "Board", .cls "Board", .mkr "Board", .noat "Board" "eyes", .noat "Board" "turns", .noat "Board" "up", .noat "Board" "down", .noat "Board" "most", .noat "Board" "told", .meth "Board" "has", .meth "Board" "tell", .meth "Board" "tellings"]
def fa : List He.Fa := fa1 ++ fa2
abbrev R : PySem.W.OpenRow := PySem.W.OpenLaw.row PySem.Challenge.rw_gaze_k47_whole_the_truth_stays_in
abbrev hk : PySem.W.Hook := He.hookD 6 fa fn
def ob (s : PySem.W.SharedT) : He.AlD := He.obsDG 6 fa fn (HandSHeadRun.getT s)
theorem ob_eq (s : PySem.W.SharedT) : ob s = hk.obs s.abs := He.obsDG_eq (HandSHeadRun.getT_eq s)
theorem run (w : World) : HandSHeadRun.RunEq R (PySem.W.view R.prog [60]) hk ob 4000 (loose1 ++ loose2) w := by
  intro os
  kernel_rfl
end Gz
namespace Gz
open PySem PySem.Spec PyProof.Rows L2
section
variable {P : Program} {w : World} {K : PySem.W.Frag} {h base : Heap} {mg : Str → Option Value}
theorem tx_at (c : He.SaysD fa fn K) (X : K.In h) (G : h.Ns mainGlobals mg) {x : Str} {st : Stmt} (i j : Nat) (h1 : fn[i]? = some ⟨(x, none), x, x, defArgs st, defBody st, defScope st, [], []⟩) (h2 : fa[j]? = some (.glo x)) : Tx K mg x st := by
  obtain ⟨fd, F⟩ := c.def_ i h1
  exact ⟨_, fd, F, He.glo_ok X G (c.fact j h2)⟩
theorem tm_at (c : He.SaysD fa fn K) {m q : Str} {st : Stmt} (i j : Nat) (h1 : fn[i]? = some ⟨("Board", some m), m, q, defArgs st, defBody st, defScope st, [], []⟩) (h2 : fa[j]? = some (.meth "Board" m)) : Tm K (He.ga K "Board") m q st := by
  obtain ⟨fd, F⟩ := c.def_ i h1
  exact ⟨_, fd, F, He.meth_ok (c.fact j h2)⟩
theorem ti_at (c : He.SaysD fa fn K) {st : Stmt} (i j : Nat) (h1 : fn[i]? = some ⟨("Board", some "__init__"), "__init__", "Board.__init__", defArgs st, defBody st, defScope st, [], []⟩) (h2 : fa[j]? = some (.mkr "Board")) : Ti K (He.ga K "Board") st := by
  obtain ⟨fd, F⟩ := c.def_ i h1
  exact ⟨_, fd, F, He.mkr_ok (c.fact j h2)⟩
theorem bi_at (c : He.SaysD fa fn K) (X : K.In h) (G : h.Ns mainGlobals mg) : Bi mg :=
  ⟨He.free_ok X G (c.fact 44 (f := .free "sum") rfl), He.free_ok X G (c.fact 45 (f := .free "range") rfl), He.free_ok X G (c.fact 46 (f := .free "len") rfl), He.free_ok X G (c.fact 47 (f := .free "max") rfl), He.free_ok X G (c.fact 48 (f := .free "min") rfl), He.free_ok X G (c.fact 49 (f := .free "sorted") rfl), He.free_ok X G (c.fact 50 (f := .free "list") rfl), He.free_ok X G (c.fact 51 (f := .free "isinstance") rfl), He.free_ok X G (c.fact 52 (f := .free "int") rfl), He.free_ok X G (c.fact 53 (f := .free "bool") rfl), He.free_ok X G (c.fact 54 (f := .free "tuple") rfl)⟩
theorem bt_at (c : He.SaysD fa fn K) (X : K.In h) (G : h.Ns mainGlobals mg) : BT K mg (He.ga K "Board") :=
  ⟨He.cls_ok (c.fact 58 (f := .cls "Board") rfl), He.noat_ok (c.fact 60 (f := .noat "Board" "eyes") rfl), He.noat_ok (c.fact 61 (f := .noat "Board" "turns") rfl), He.noat_ok (c.fact 62 (f := .noat "Board" "up") rfl), He.noat_ok (c.fact 63 (f := .noat "Board" "down") rfl), He.noat_ok (c.fact 64 (f := .noat "Board" "most") rfl), He.noat_ok (c.fact 65 (f := .noat "Board" "told") rfl), He.glo_ok X G (c.fact 57 (f := .glo "Board") rfl)⟩
theorem law_at (c : He.SaysD fa fn K) (X : K.In h) (G : h.Ns mainGlobals mg) {f : Addr} {fd : FuncData} (F : FunD K "law" "law" (defArgs sLaw) (defBody sLaw) (defScope sLaw) [] [] f fd) : FnOk P w K mg base CX0 17 f fd ["_law_script"] (spLaw K) := by
  have B := bi_at c X G
  have BC := bt_at c X G
  have hE := He.int_ok X G (c.fact 55 (f := .int "EYES" 7) rfl)
  have hT := He.int_ok X G (c.fact 56 (f := .int "TURNS" 12) rfl)
  have bRise := df_rise (P := P) (w := w) (base := base) (tx_at c X G (x := "rise") (st := sRise) 0 0 rfl rfl) B
  have bClash := df_clash (tx_at c X G (x := "clash") (st := sClash) 1 1 rfl rfl) bRise
  have bClashing := df_clashing (tx_at c X G (x := "clashing") (st := sClashing) 2 2 rfl rfl) B bClash
  have bRoomAt := df_room_at (tx_at c X G (x := "room_at") (st := sRoomAt) 3 3 rfl rfl) B bRise
  have bTube := df_tube (tx_at c X G (x := "tube") (st := sTube) 4 4 rfl rfl) B bClashing bRoomAt
  have bCourseIn := df_course_in (tx_at c X G (x := "course_in") (st := sCourseIn) 5 5 rfl rfl) B bTube bRise
  have bHolds := df_holds (P := P) (w := w) (base := base) (tx_at c X G (x := "holds") (st := sHolds) 6 6 rfl rfl)
  have bMeet := df_meet (P := P) (w := w) (base := base) (tx_at c X G (x := "meet") (st := sMeet) 7 7 rfl rfl)
  have bLoRank := df_lo_rank (P := P) (w := w) (base := base) (tx_at c X G (x := "lo_rank") (st := sLoRank) 8 8 rfl rfl)
  have bJoins := df_joins (P := P) (w := w) (base := base) (tx_at c X G (x := "joins") (st := sJoins) 9 9 rfl rfl)
  have bLaterEnd := df_later_end (P := P) (w := w) (base := base) (tx_at c X G (x := "later_end") (st := sLaterEnd) 10 10 rfl rfl) B
  have bGathered := df_gathered (tx_at c X G (x := "gathered") (st := sGathered) 11 11 rfl rfl) B bLoRank bJoins bLaterEnd
  have bHull := df_hull (tx_at c X G (x := "hull") (st := sHull) 12 12 rfl rfl) B bGathered
  have bAskParts := df_ask_parts (P := P) (w := w) (base := base) (tx_at c X G (x := "ask_parts") (st := sAskParts) 13 13 rfl rfl) BC
  have bInCommon := df_in_common (tx_at c X G (x := "in_common") (st := sInCommon) 14 14 rfl rfl) bMeet
  have bPaces := df_paces (tx_at c X G (x := "paces") (st := sPaces) 15 15 rfl rfl) B BC bAskParts bInCommon
  have bWanted := df_wanted (tx_at c X G (x := "wanted") (st := sWanted) 16 16 rfl rfl) B BC bAskParts bInCommon
  have bInit := di_init (P := P) (w := w) (base := base) (ti_at c (st := sInit) 44 59 rfl rfl) BC hE hT
  have bHas := dm_has (P := P) (w := w) (base := base) (tm_at c (m := "has") (q := "Board.has") (st := sHas) 45 66 rfl rfl) BC
  have bTell := dm_tell (tm_at c (m := "tell") (q := "Board.tell") (st := sTell) 46 67 rfl rfl) BC bHas
  have bTellings := dm_tellings (P := P) (w := w) (base := base) (tm_at c (m := "tellings") (q := "Board.tellings") (st := sTellings) 47 68 rfl rfl) B BC
  have bMarksWithout := df_marks_without (tx_at c X G (x := "marks_without") (st := sMarksWithout) 20 20 rfl rfl) BC bTellings
  have bMarksOf := df_marks_of (tx_at c X G (x := "marks_of") (st := sMarksOf) 24 24 rfl rfl) B BC bTellings
  have bEyesAside := df_eyes_aside (P := P) (w := w) (base := base) (tx_at c X G (x := "eyes_aside") (st := sEyesAside) 19 19 rfl rfl) B
  have bLiars := df_liars (tx_at c X G (x := "liars") (st := sLiars) 17 17 rfl rfl) B BC bTellings bHolds
  have bFits := df_fits (tx_at c X G (x := "fits") (st := sFits) 18 18 rfl rfl) B BC bLiars bHolds
  have bAllTubes := df_all_tubes (tx_at c X G (x := "all_tubes") (st := sAllTubes) 21 21 rfl rfl) B BC bPaces bEyesAside bTube bMarksWithout
  have bPlaces := df_places (tx_at c X G (x := "places") (st := sPlaces) 22 22 rfl rfl) B BC bAllTubes bGathered
  have bStrips := df_strips (tx_at c X G (x := "strips") (st := sStrips) 23 23 rfl rfl) B BC bAllTubes bHull
  have bSearch := df_search (tx_at c X G (x := "search_on") (st := sSearchOn) 25 25 rfl rfl) B bClashing bCourseIn 9
  have bAsk := df_ask (tx_at c X G (x := "ask") (st := sAsk) 26 26 rfl rfl) B BC bPaces bWanted bMarksOf bSearch
  have bPick := df_pick (P := P) (w := w) (base := base) (tx_at c X G (x := "_law_pick") (st := sPick) 27 27 rfl rfl) B
  have bWide := df_wide (tx_at c X G (x := "_law_wide") (st := sWide) 28 28 rfl rfl) B bPick
  have bShape := df_shape (tx_at c X G (x := "_law_shape") (st := sShape) 29 29 rfl rfl) B bPick bWide
  have bCourse := df_course (tx_at c X G (x := "_law_course") (st := sCourse) 30 30 rfl rfl) B bPick bWide
  have bWord := df_word (tx_at c X G (x := "_law_word") (st := sWord) 31 31 rfl rfl) bPick
  have bBoard := df_board (tx_at c X G (x := "_law_board") (st := sBoard) 32 32 rfl rfl) B BC bPick bInit bTell
  have bIn := df_in (P := P) (w := w) (base := base) (tx_at c X G (x := "_law_in") (st := sIn) 33 33 rfl rfl)
  have bWhole := df_whole (P := P) (w := w) (base := base) (tx_at c X G (x := "_law_whole") (st := sWhole) 34 34 rfl rfl) B
  have bLLiars := df_lliars (tx_at c X G (x := "_law_liars") (st := sLLiars) 35 35 rfl rfl) B bIn
  have bMet := df_met (tx_at c X G (x := "_law_met") (st := sMet) 36 36 rfl rfl) bIn
  have bWalked := df_walked (tx_at c X G (x := "_law_walked") (st := sWalked) 37 37 rfl rfl) B bWhole bMet bLLiars
  have bSame := df_same (tx_at c X G (x := "_law_same") (st := sSame) 38 38 rfl rfl) B BC bTellings
  have bMostly := df_mostly (tx_at c X G (x := "_law_mostly") (st := sMostly) 39 39 rfl rfl) B bPick bWide bWord
  have bParts := df_parts (tx_at c X G (x := "_law_true_parts") (st := sTrueParts) 40 40 rfl rfl) B bPick bWord
  have bHas2 := df_has2 (tx_at c X G (x := "_law_has") (st := sHas2) 41 41 rfl rfl) B bIn
  have bStays := df_stays (tx_at c X G (x := "_law_stays") (st := sStays) 42 42 rfl rfl) B BC bStrips bPlaces bFits bAsk bIn bHas2 bWalked bSame
  exact ok_law (fun_of F) BC bPick bShape bCourse bMostly bParts bBoard bWord bTell bStays
theorem facts {f : Addr} (X : K.In h) (G : h.Ns mainGlobals mg) (hfa : mg ("law" : Str) = some (.ref f)) (c : He.SaysD fa fn K) :
    ∃ fd : FuncData, (∀ (s : Shared) (v : Value), BindsTo s fd ⟨[v], []⟩ [("_law_script", v)]) ∧ ∀ base : Heap, FnOk P w K mg base CX0 17 f fd ["_law_script"] (spLaw K) := by
  obtain ⟨fd, F⟩ := c.def_ 43 (d := dLaw) rfl
  have e := hfa.symm.trans (He.glo_ok X G (c.fact 43 (f := .glo "law") rfl))
  cases e
  have b := FunD.bindsA (ps := ["_law_script"]) F fun _ _ _ _ _ _ us hl => match us, hl with | [_], _ => rfl
  exact ⟨fd, fun s v => b s [v] rfl, fun base => law_at c X G F⟩
end
theorem law_bits {K : PySem.W.Frag} {H : Hp} {a : Addr} {ns : List Int} (hl : ns.length ≤ 63) (hb : ∀ z ∈ ns, Builtin.Int.intBits z ≤ 1048576) (hS : SqL K H a (ns.map V.int)) : spLaw K [.ref a] H (fun v _ => v = .bl true) fun _ _ _ => False :=
  ⟨.ref a, rfl, ⟨a, ns, rfl, hS, hl, hb⟩, fun _ => rfl⟩
end Gz
open PySem PySem.W PySem.Calls PyProof.Rows
theorem PySem.Challenge.cw_gaze_k47_whole_the_truth_stays_in_holds : PySem.Challenge.rw_gaze_k47_whole_the_truth_stays_in.Holds := by
  w_on; o_law
  refine HandSHeadRun.head_any (r := Gz.R) (q := view Gz.R.prog [60]) (H := Gz.hk) (ob := Gz.ob) (M := 4000) (loose := Gz.loose1 ++ Gz.loose2) (d := HandSHeadRun.topDef Gz.R.prog 60) (kwd := []) Gz.ob_eq
    (by kernel_rfl) (fun s => by kernel_rfl) Gz.run (by kernel_rfl) (by kernel_rfl) (by kernel_rfl) (by rfl) (by first | assumption | decide +kernel) (by decide +kernel) ⟨rfl, rfl, rfl, rfl, rfl, by decide +kernel⟩ ?hw ?hc
  case hw => w_witness2
  case hc =>
    refine Att.attach_callB (l := PySem.Challenge.rw_gaze_k47_whole_the_truth_stays_in) (n := 63) rfl (by kernel_rfl) fun w s₀ s₁ mg mb fa o pm cd doc a vs ns G Y _ _ _ hmg0 hobj hints hlen hbits hg => ?_
    obtain ⟨K, KX, c⟩ := Y
    have hmg : mg ("law" : PySem.Str) = some (.ref fa) := by
      have e : (HandSHeadRun.topDef Gz.R.prog 60).name = ("law" : PySem.Str) := by kernel_rfl
      rw [← e]
      exact hmg0
    obtain ⟨fd, hb, hF⟩ := Gz.facts (P := (PySem.Challenge.rw_gaze_k47_whole_the_truth_stays_in).prog) (w := w) KX G.T.g hmg c
    exact L2.law_call KX G.T.g G.T.b G.T.builtins G.T.nolimit hg hobj hints (Nat.le_trans hlen (by decide)) ⟨rfl, by decide, by decide⟩ (fun base _ _ => hF base) hb (fun H _ hS => Gz.law_bits hlen hbits hS) fun H e s' z => z
