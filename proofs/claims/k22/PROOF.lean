import PyProof.Rows.All
import Wide.All
import OpenK.AllK
import Wide.FinOn
import KE.KStateDown
import Lean
import HandS.ForMost
import HandS.Evl
import HandS.Flow
import HandS.Style
import HandS.More
import HandS.Conv
import HandS.Sort
import HandS.SortInts
import HandS.SortOrd
import HandS.SortRule
import HandS.TupLe
import HandS.TupAny
import HandS.TupMul
import HandS.TupSets
import HandS.DictTup
import HandS.DictComp
import HandS.Set
import HandS.Strs
import HandS.SetFor
import HandS.SetKeys
import HandS.Zip
import HandS.Walk
import HandS.IsInst
import HandS.Exc
import HandS.TryOnly
import HandS.TryMany
import HandS.ExcOwn
import HandS.ExcInit
import HandS.ExcField
import HandS.ExcIs
import HandS.WordsExc
import HandS.Lambda
import HandS.EndTab
import HandS.Defaults
import HandS.Steps
import HandS.Wide
import HandS.FStrTup
import HandS.RaiseMore
import HandS.RepeatKit
import HandS.IterVal
import HandS.HeadEnd
import HandS.HeadHook1
import HandS.HeadHook2
import HandS.HeadHook3
import HandS.HeadHook4
import HandS.HeadWalk
import PySem.Challenge.RW_sparetrees_k22_whole_rates_and_loads
import HandS.Head0
import HandS.Head1
import HandS.Head2
import HandS.Head3
import KE.GoesMore
import KE.KDictZip
import KE.KExcIs
import PyProof.ReprLen
import PyProof.ReprRoads
set_option autoImplicit false
namespace Spt

/-- a link (from, to) enters the places of a mask -/
def enters (e : Nat × Nat) (m : Nat) : Bool := m.testBit e.2 && !m.testBit e.1

/-- how often a mask is entered -/
def ent : List (Nat × Nat) → List Nat → Nat → Int
  | e :: es, u :: us, m => (if enters e m then (u : Int) else 0) + ent es us m
  | _, _, _ => 0

/-- how many parts have heard no place of a mask -/
def need (hs : List Nat) (m : Nat) : Int := ((hs.filter fun h => h &&& m == 0).length : Int)

theorem need_nil (m : Nat) : need [] m = 0 := rfl
theorem need_cons (h : Nat) (hs : List Nat) (m : Nat) : need (h :: hs) m = (if h &&& m = 0 then 1 else 0) + need hs m := by
  unfold need
  by_cases e : h &&& m = 0
  · simp [e]; omega
  · simp [e]

theorem and_or_zero (h X Y : Nat) : h &&& (X ||| Y) = 0 ↔ h &&& X = 0 ∧ h &&& Y = 0 := by
  rw [Nat.and_or_distrib_left, Nat.or_eq_zero_iff]
theorem and_and_zero_l (h X Y : Nat) (e : h &&& X = 0) : h &&& (X &&& Y) = 0 := by
  rw [← Nat.and_assoc, e, Nat.zero_and]
theorem and_and_zero_r (h X Y : Nat) (e : h &&& Y = 0) : h &&& (X &&& Y) = 0 := by
  rw [Nat.and_comm X Y, ← Nat.and_assoc, e, Nat.zero_and]

theorem need_super (X Y : Nat) : ∀ hs, need hs X + need hs Y ≤ need hs (X &&& Y) + need hs (X ||| Y)
  | [] => by simp [need_nil]
  | h :: hs => by
    have ih := need_super X Y hs
    rw [need_cons, need_cons, need_cons, need_cons]
    have e1 := and_or_zero h X Y
    have e2 := and_and_zero_l h X Y
    have e3 := and_and_zero_r h X Y
    by_cases a : h &&& X = 0 <;> by_cases b : h &&& Y = 0 <;> by_cases c : h &&& (X &&& Y) = 0 <;> by_cases d : h &&& (X ||| Y) = 0 <;> simp_all <;> omega

theorem need_super_strict (X Y R : Nat) (hX : R &&& X ≠ 0) (hY : R &&& Y ≠ 0) (hI : R &&& (X &&& Y) = 0) : ∀ hs, R ∈ hs → need hs X + need hs Y + 1 ≤ need hs (X &&& Y) + need hs (X ||| Y)
  | [], hR => by simp at hR
  | h :: hs, hR => by
    rw [need_cons, need_cons, need_cons, need_cons]
    have e1 := and_or_zero h X Y
    have e2 := and_and_zero_l h X Y
    have e3 := and_and_zero_r h X Y
    rcases List.mem_cons.mp hR with e | hR'
    · subst e
      have ih := need_super X Y hs
      simp [hX, hY, hI, e1]; omega
    · have ih := need_super_strict X Y R hX hY hI hs hR'
      by_cases a : h &&& X = 0 <;> by_cases b : h &&& Y = 0 <;> by_cases c : h &&& (X &&& Y) = 0 <;> by_cases d : h &&& (X ||| Y) = 0 <;> simp_all <;> omega

theorem ent_sub (X Y : Nat) : ∀ es us, ent es us (X &&& Y) + ent es us (X ||| Y) ≤ ent es us X + ent es us Y
  | [], _ => by simp [ent]
  | _ :: _, [] => by simp [ent]
  | e :: es, u :: us => by
    have ih := ent_sub X Y es us
    simp only [ent]
    have h : (if enters e (X &&& Y) then (u : Int) else 0) + (if enters e (X ||| Y) then (u : Int) else 0) ≤ (if enters e X then (u : Int) else 0) + (if enters e Y then (u : Int) else 0) := by
      unfold enters
      rw [Nat.testBit_and, Nat.testBit_and, Nat.testBit_or, Nat.testBit_or]
      cases X.testBit e.1 <;> cases X.testBit e.2 <;> cases Y.testBit e.1 <;> cases Y.testBit e.2 <;> simp <;> omega
    omega

/-- a monotone side: what is missed by X is missed by a part of X; one more -/
theorem need_mono_strict (X D R : Nat) (hXR : R &&& X ≠ 0) (hD : R &&& D = 0) (sub : ∀ h : Nat, h &&& X = 0 → h &&& D = 0) : ∀ hs, R ∈ hs → need hs X + 1 ≤ need hs D := by
  have weak : ∀ hs, need hs X ≤ need hs D := by
    intro hs
    induction hs with
    | nil => simp [need_nil]
    | cons h hs ih =>
      rw [need_cons, need_cons]
      have := sub h
      by_cases a : h &&& X = 0 <;> by_cases b : h &&& D = 0 <;> simp_all <;> omega
  intro hs
  induction hs with
  | nil => intro h; simp at h
  | cons h hs ih =>
    intro hm
    rw [need_cons, need_cons]
    rcases List.mem_cons.mp hm with e | hm
    · subst e
      have := weak hs
      simp [hXR, hD]; omega
    · have := ih hm
      have := sub h
      by_cases a : h &&& X = 0 <;> by_cases b : h &&& D = 0 <;> simp_all <;> omega

/-- some link in use enters D but not X -/
theorem ent_pick (X D : Nat) : ∀ (es : List (Nat × Nat)) (us : List Nat), ent es us X < ent es us D → ∃ (i : Nat) (e : Nat × Nat) (u : Nat), es[i]? = some e ∧ us[i]? = some u ∧ 0 < u ∧ enters e D = true ∧ enters e X = false
  | [], _, h => by simp [ent] at h
  | _ :: _, [], h => by simp [ent] at h
  | e :: es, u :: us, h => by
    simp only [ent] at h
    by_cases c : 0 < u ∧ enters e D = true ∧ enters e X = false
    · exact ⟨0, e, u, rfl, rfl, c.1, c.2.1, c.2.2⟩
    · have h' : ent es us X < ent es us D := by
        cases a : enters e D <;> cases b : enters e X <;> simp_all <;> omega
      obtain ⟨i, e', u', h1, h2, h3⟩ := ent_pick X D es us h'
      exact ⟨i + 1, e', u', by simpa using h1, by simpa using h2, h3⟩
theorem ent_zero : ∀ (es : List (Nat × Nat)) (us : List Nat), ent es us 0 = 0
  | [], _ => by simp [ent]
  | _ :: _, [] => by simp [ent]
  | e :: es, u :: us => by simp [ent, ent_zero es us, enters]

theorem and_ne_zero_of {a b i : Nat} (h1 : a.testBit i = true) (h2 : b.testBit i = true) : a &&& b ≠ 0 := by
  intro e
  have : (a &&& b).testBit i = true := by rw [Nat.testBit_and, h1, h2]; rfl
  rw [e] at this; simp at this
theorem and_zero_of {a b : Nat} (h : ∀ i, a.testBit i = true → b.testBit i = true → False) : a &&& b = 0 := by
  apply Nat.eq_of_testBit_eq
  intro i
  rw [Nat.testBit_and, Nat.zero_testBit]
  have := h i
  cases p : a.testBit i with
  | false => rfl
  | true =>
    cases q : b.testBit i with
    | false => rfl
    | true => exact (this p q).elim
theorem bit_of_and_ne {a b : Nat} (h : a &&& b ≠ 0) : ∃ i, a.testBit i = true ∧ b.testBit i = true := by
  have : ∃ i, (a &&& b).testBit i = true := Nat.exists_testBit_of_ne_zero h
  obtain ⟨i, hi⟩ := this
  rw [Nat.testBit_and, Bool.and_eq_true] at hi
  exact ⟨i, hi⟩

/-- the law of the growing: no mask is entered less often than parts need it -/
def Holds (n : Nat) (es : List (Nat × Nat)) (us hs : List Nat) : Prop := ∀ m, 0 < m → m < 2 ^ n → need hs m ≤ ent es us m
def Links (n : Nat) (es : List (Nat × Nat)) : Prop := ∀ e ∈ es, e.1 < n ∧ e.2 < n ∧ e.1 ≠ e.2

/-- what is_safe asks of a link (a, b), of the part that has heard R -/
def Safe (n : Nat) (es : List (Nat × Nat)) (us hs : List Nat) (R : Nat) (e : Nat × Nat) : Prop :=
  R.testBit e.1 = true ∧ R.testBit e.2 = false ∧ ∀ m, 0 < m → m < 2 ^ n → enters e m = true → m &&& R ≠ 0 → need hs m < ent es us m

theorem least_of {P : Nat → Prop} : ∀ X, P X → ∃ Y, P Y ∧ ∀ Z, Z < Y → ¬ P Z := by
  intro X
  induction X using Nat.strongRecOn with
  | _ X ih =>
    intro h
    by_cases c : ∃ Z, Z < X ∧ P Z
    · obtain ⟨Z, hz, hp⟩ := c
      exact ih Z hz hp
    · exact ⟨X, h, fun Z hz hp => c ⟨Z, hz, hp⟩⟩

theorem and_le_self (X Y : Nat) : X &&& Y ≤ X := Nat.and_le_left
theorem and_lt_of {X Y i : Nat} (h1 : X.testBit i = true) (h2 : Y.testBit i = false) : X &&& Y < X := by
  refine Nat.lt_of_le_of_ne Nat.and_le_left fun e => ?_
  have : (X &&& Y).testBit i = true := by rw [e]; exact h1
  rw [Nat.testBit_and, h2] at this
  simp at this

theorem safe_exists {n : Nat} {es : List (Nat × Nat)} {us hs : List Nat} {R : Nat} (hl : Links n es) (hh : Holds n es us hs) (hR : R ∈ hs) (hRn : R < 2 ^ n) (hne : R ≠ 2 ^ n - 1) :
    ∃ (i : Nat) (e : Nat × Nat) (u : Nat), es[i]? = some e ∧ us[i]? = some u ∧ 0 < u ∧ Safe n es us hs R e := by
  let P : Nat → Prop := fun X => X < 2 ^ n ∧ ent es us X ≤ need hs X ∧ X &&& R ≠ 0 ∧ ∃ b, X.testBit b = true ∧ R.testBit b = false
  have pos : ∀ {X i}, X.testBit i = true → 0 < X := fun {X i} h => by
    rcases Nat.eq_zero_or_pos X with e | e
    · subst e; simp at h
    · exact e
  by_cases c : ∃ X, P X
  · obtain ⟨X0, hX0⟩ := c
    obtain ⟨X, ⟨hXn, ht, hXR, b0, hb1, hb2⟩, hmin⟩ := least_of (P := P) X0 hX0
    have hDb : ∀ i, (X ^^^ (X &&& R)).testBit i = (X.testBit i && !R.testBit i) := fun i => by
      rw [Nat.testBit_xor, Nat.testBit_and]
      cases X.testBit i <;> cases R.testBit i <;> rfl
    have hD0 : (X ^^^ (X &&& R)).testBit b0 = true := by rw [hDb, hb1, hb2]; rfl
    have hDn : X ^^^ (X &&& R) < 2 ^ n := Nat.xor_lt_two_pow hXn (Nat.lt_of_le_of_lt Nat.and_le_left hXn)
    have hRD : R &&& (X ^^^ (X &&& R)) = 0 := and_zero_of fun i h1 h2 => by
      rw [hDb, h1] at h2; simp at h2
    have hRX : R &&& X ≠ 0 := by rw [Nat.and_comm]; exact hXR
    have hsub : ∀ h : Nat, h &&& X = 0 → h &&& (X ^^^ (X &&& R)) = 0 := fun h e => and_zero_of fun i h1 h2 => by
      rw [hDb] at h2
      have h3 : X.testBit i = true := by cases q : X.testBit i <;> simp_all
      exact and_ne_zero_of h1 h3 e
    have n1 := need_mono_strict X _ R hRX hRD hsub hs hR
    have n2 := hh _ (pos hD0) hDn
    obtain ⟨i, e, u, e1, e2, hu, eD, eX⟩ := ent_pick X (X ^^^ (X &&& R)) es us (by omega)
    refine ⟨i, e, u, e1, e2, hu, ?_⟩
    unfold enters at eD eX
    rw [hDb, hDb] at eD
    have k1 : X.testBit e.2 = true := by cases q : X.testBit e.2 <;> simp_all
    have k2 : R.testBit e.2 = false := by cases q : R.testBit e.2 <;> simp_all
    have k3 : X.testBit e.1 = true := by cases q : X.testBit e.1 <;> simp_all
    have k4 : R.testBit e.1 = true := by cases q : R.testBit e.1 <;> simp_all
    refine ⟨k4, k2, fun Y hY0 hYn hYe hYR => ?_⟩
    unfold enters at hYe
    have y1 : Y.testBit e.2 = true := by cases q : Y.testBit e.2 <;> simp_all
    have y2 : Y.testBit e.1 = false := by cases q : Y.testBit e.1 <;> simp_all
    refine Int.lt_of_not_ge fun hYt => ?_
    have hI : (X &&& Y).testBit e.2 = true := by rw [Nat.testBit_and, k1, y1]; rfl
    have hIn : X &&& Y < 2 ^ n := Nat.lt_of_le_of_lt Nat.and_le_left hXn
    have hU : (X ||| Y).testBit e.2 = true := by rw [Nat.testBit_or, k1]; rfl
    have hUn : X ||| Y < 2 ^ n := Nat.or_lt_two_pow hXn hYn
    have s1 := ent_sub X Y es us
    have f1 := hh _ (pos hI) hIn
    have f2 := hh _ (pos hU) hUn
    by_cases ci : R &&& (X &&& Y) = 0
    · have s2 := need_super_strict X Y R hRX (by rw [Nat.and_comm]; exact hYR) ci hs hR
      omega
    · have s2 := need_super X Y hs
      exact hmin (X &&& Y) (and_lt_of k3 y2) ⟨hIn, by omega, by rw [Nat.and_comm]; exact ci, e.2, hI, k2⟩
  · have hFb : ∀ i, ((2 ^ n - 1) ^^^ R).testBit i = (decide (i < n) && !R.testBit i || !decide (i < n) && R.testBit i) := fun i => by
      rw [Nat.testBit_xor, Nat.testBit_two_pow_sub_one]
      cases decide (i < n) <;> cases R.testBit i <;> rfl
    have hRb : ∀ i, R.testBit i = true → i < n := fun i h => by
      refine Nat.lt_of_not_ge fun g => ?_
      have : R.testBit i = false := Nat.testBit_lt_two_pow (Nat.lt_of_lt_of_le hRn (Nat.pow_le_pow_right (by decide) g))
      rw [h] at this; cases this
    have hF : ∀ i, ((2 ^ n - 1) ^^^ R).testBit i = true ↔ i < n ∧ R.testBit i = false := fun i => by
      rw [hFb]
      have := hRb i
      cases q : R.testBit i <;> simp_all
    have hF0 : (2 ^ n - 1) ^^^ R ≠ 0 := fun e => hne (by
      have h1 : ((2 ^ n - 1) ^^^ R) ^^^ R = 0 ^^^ R := by rw [e]
      rw [Nat.xor_assoc, Nat.xor_self, Nat.xor_zero, Nat.zero_xor] at h1
      exact h1.symm)
    obtain ⟨b0, hb0⟩ := Nat.exists_testBit_of_ne_zero hF0
    have hFn : (2 ^ n - 1) ^^^ R < 2 ^ n := Nat.xor_lt_two_pow (Nat.sub_lt (Nat.two_pow_pos n) (by decide)) hRn
    have hRF : R &&& ((2 ^ n - 1) ^^^ R) = 0 := and_zero_of fun i h1 h2 => by
      have := ((hF i).mp h2).2
      rw [h1] at this; cases this
    have n1 : 1 ≤ need hs ((2 ^ n - 1) ^^^ R) := by
      unfold need
      have : R ∈ hs.filter fun h => h &&& ((2 ^ n - 1) ^^^ R) == 0 := List.mem_filter.mpr ⟨hR, by simp [hRF]⟩
      have := List.length_pos_of_mem this
      omega
    have n2 := hh _ (pos hb0) hFn
    have z := ent_zero es us
    obtain ⟨i, e, u, e1, e2, hu, eD, eX⟩ := ent_pick 0 ((2 ^ n - 1) ^^^ R) es us (by omega)
    obtain ⟨l1, l2, l3⟩ := hl e (List.mem_of_getElem? e1)
    unfold enters at eD
    have k1 : ((2 ^ n - 1) ^^^ R).testBit e.2 = true := by cases q : ((2 ^ n - 1) ^^^ R).testBit e.2 <;> simp_all
    have k2 : ((2 ^ n - 1) ^^^ R).testBit e.1 = false := by cases q : ((2 ^ n - 1) ^^^ R).testBit e.1 <;> simp_all
    have k3 := ((hF _).mp k1).2
    have k4 : R.testBit e.1 = true := by
      cases q : R.testBit e.1 with
      | true => rfl
      | false => rw [(hF e.1).mpr ⟨l1, q⟩] at k2; cases k2
    refine ⟨i, e, u, e1, e2, hu, k4, k3, fun Y hY0 hYn hYe hYR => ?_⟩
    unfold enters at hYe
    have y1 : Y.testBit e.2 = true := by cases q : Y.testBit e.2 <;> simp_all
    exact Int.lt_of_not_ge fun hYt => c ⟨Y, hYn, hYt, hYR, e.2, y1, k3⟩
end Spt

set_option autoImplicit false
namespace Spt

theorem testBit_add_pow : ∀ (b R : Nat), R.testBit b = false → ∀ i, (R + 2 ^ b).testBit i = (R.testBit i || decide (i = b))
  | 0, R, h, i => by
    have h0 : R % 2 = 0 := by
      rw [Nat.testBit_zero] at h
      have := of_decide_eq_false h
      omega
    cases i with
    | zero =>
      rw [Nat.testBit_zero, Nat.testBit_zero]
      have e : (R + 2 ^ 0) % 2 = 1 := by rw [Nat.pow_zero]; omega
      simp [e]
    | succ i =>
      rw [Nat.testBit_succ, Nat.testBit_succ]
      have e : (R + 2 ^ 0) / 2 = R / 2 := by rw [Nat.pow_zero]; omega
      rw [e]; simp
  | b + 1, R, h, i => by
    rw [Nat.testBit_succ] at h
    have e2 : (R + 2 ^ (b + 1)) / 2 = R / 2 + 2 ^ b := by rw [Nat.pow_succ]; omega
    cases i with
    | zero =>
      rw [Nat.testBit_zero, Nat.testBit_zero]
      have e : (R + 2 ^ (b + 1)) % 2 = R % 2 := by rw [Nat.pow_succ]; omega
      rw [e]; simp
    | succ i =>
      rw [Nat.testBit_succ, Nat.testBit_succ, e2, testBit_add_pow b (R / 2) h i]
      simp
theorem bit_lt {R n i : Nat} (hR : R < 2 ^ n) (h : R.testBit i = true) : i < n := by
  refine Nat.lt_of_not_ge fun g => ?_
  have : R.testBit i = false := Nat.testBit_lt_two_pow (Nat.lt_of_lt_of_le hR (Nat.pow_le_pow_right (by decide) g))
  rw [h] at this; cases this
theorem lt_of_bits {R n : Nat} (h : ∀ i, R.testBit i = true → i < n) : R < 2 ^ n := by
  refine Nat.lt_pow_two_of_testBit R fun i hi => ?_
  cases q : R.testBit i with
  | false => rfl
  | true => exact absurd (h i q) (Nat.not_lt.mpr hi)
theorem add_pow_lt {R n b : Nat} (hR : R < 2 ^ n) (hb : b < n) (h : R.testBit b = false) : R + 2 ^ b < 2 ^ n := by
  refine lt_of_bits fun i hi => ?_
  rw [testBit_add_pow b R h] at hi
  rcases Bool.or_eq_true _ _ ▸ hi with q | q
  · exact bit_lt hR q
  · have := of_decide_eq_true q
    omega

/-! ### one step keeps the law -/
theorem ent_set {e : Nat × Nat} {u : Nat} (hu : 0 < u) (m : Nat) : ∀ {es : List (Nat × Nat)} {us : List Nat} {i : Nat}, es[i]? = some e → us[i]? = some u → ent es (us.set i (u - 1)) m = ent es us m - (if enters e m then 1 else 0)
  | [], us, i, h, _ => by simp at h
  | _ :: _, [], i, _, h => by simp at h
  | e' :: es, u' :: us, 0, h1, h2 => by
    simp only [List.getElem?_cons_zero, Option.some.injEq] at h1 h2
    subst h1 h2
    simp only [List.set_cons_zero, ent]
    by_cases c : enters e' m = true
    · simp [c]; omega
    · simp [c]
  | e' :: es, u' :: us, i + 1, h1, h2 => by
    have ih := ent_set hu m (es := es) (us := us) (i := i) (by simpa using h1) (by simpa using h2)
    simp only [List.set_cons_succ, ent, ih]
    omega
theorem need_set {R R' : Nat} (m : Nat) : ∀ {hs : List Nat} {p : Nat}, hs[p]? = some R → need (hs.set p R') m = need hs m - (if R &&& m = 0 then 1 else 0) + (if R' &&& m = 0 then 1 else 0)
  | [], p, h => by simp at h
  | h' :: hs, 0, h => by
    simp only [List.getElem?_cons_zero, Option.some.injEq] at h
    subst h
    rw [List.set_cons_zero, need_cons, need_cons]
    omega
  | h' :: hs, p + 1, h => by
    have ih := need_set m (hs := hs) (p := p) (R := R) (R' := R') (by simpa using h)
    rw [List.set_cons_succ, need_cons, need_cons, ih]
    omega
theorem and_add_pow {R b m : Nat} (h : R.testBit b = false) : (R + 2 ^ b) &&& m = 0 ↔ R &&& m = 0 ∧ m.testBit b = false := by
  constructor
  · intro e
    have key : ∀ i, (R.testBit i || decide (i = b)) = true → m.testBit i = true → False := fun i h1 h2 => by
      have h3 : (R + 2 ^ b).testBit i = true := by rw [testBit_add_pow b R h, h1]
      exact and_ne_zero_of h3 h2 e
    refine ⟨and_zero_of fun i h1 h2 => key i (by rw [h1]; rfl) h2, ?_⟩
    cases q : m.testBit b with
    | false => rfl
    | true => exact (key b (by simp) q).elim
  · rintro ⟨e, hb⟩
    refine and_zero_of fun i h1 h2 => ?_
    rw [testBit_add_pow b R h] at h1
    rcases Bool.or_eq_true _ _ ▸ h1 with q | q
    · exact and_ne_zero_of q h2 e
    · have := of_decide_eq_true q
      subst this
      rw [h2] at hb; cases hb
/-- behind a step: how the needs fall -/
theorem need_step {hs : List Nat} {p R b : Nat} (m : Nat) (hp : hs[p]? = some R) (hb : R.testBit b = false) :
    need (hs.set p (R + 2 ^ b)) m = need hs m - (if m.testBit b = true ∧ m &&& R = 0 then 1 else 0) := by
  rw [need_set m hp]
  have e := and_add_pow (m := m) hb
  rw [Nat.and_comm m R]
  by_cases c : R &&& m = 0
  · cases q : m.testBit b with
    | true => simp [c, e, q]
    | false => simp [c, e, q]
  · simp [c, e]
theorem Holds.step {n : Nat} {es : List (Nat × Nat)} {us hs : List Nat} {i p u R : Nat} {e : Nat × Nat} (h : Holds n es us hs) (he : es[i]? = some e) (hu : us[i]? = some u) (h0 : 0 < u) (hp : hs[p]? = some R) (sf : Safe n es us hs R e) :
    Holds n es (us.set i (u - 1)) (hs.set p (R + 2 ^ e.2)) := by
  intro m m0 mn
  rw [ent_set h0 m he hu, need_step m hp sf.2.1]
  have h1 := h m m0 mn
  have h2 := sf.2.2 m m0 mn
  have a1 := sf.1
  have a2 := sf.2.1
  by_cases c : enters e m = true
  · by_cases d : m &&& R = 0
    · have : m.testBit e.2 = true := by
        unfold enters at c
        cases q : m.testBit e.2 <;> simp_all
      rw [if_pos c, if_pos ⟨this, d⟩]; omega
    · have := h2 c d
      rw [if_pos c, if_neg (fun z => d z.2)]; omega
  · rw [if_neg c]
    by_cases d : m.testBit e.2 = true ∧ m &&& R = 0
    · rw [if_pos d]; omega
    · rw [if_neg d]; omega

/-! ### what a part has -/
/-- the links that a part took, in order, and what it has heard -/
inductive Grown (es : List (Nat × Nat)) (root : Nat) : List Nat → Nat → Prop
  | nil : Grown es root [] (2 ^ root)
  | snoc {T : List Nat} {R i : Nat} {e : Nat × Nat} : Grown es root T R → es[i]? = some e → R.testBit e.1 = true → R.testBit e.2 = false → Grown es root (T ++ [i]) (R + 2 ^ e.2)

/-- the place to which a link leads -/
def headOf (es : List (Nat × Nat)) (i : Nat) : Nat := (es.getD i (0, 0)).2
def tailOf (es : List (Nat × Nat)) (i : Nat) : Nat := (es.getD i (0, 0)).1
theorem headOf_eq {es : List (Nat × Nat)} {i : Nat} {e : Nat × Nat} (h : es[i]? = some e) : headOf es i = e.2 := by
  unfold headOf; rw [List.getD_eq_getElem?_getD, h]; rfl
theorem tailOf_eq {es : List (Nat × Nat)} {i : Nat} {e : Nat × Nat} (h : es[i]? = some e) : tailOf es i = e.1 := by
  unfold tailOf; rw [List.getD_eq_getElem?_getD, h]; rfl

variable {es : List (Nat × Nat)} {root : Nat} {T : List Nat} {R : Nat}
theorem Grown.lt (g : Grown es root T R) : ∀ i ∈ T, i < es.length := by
  induction g with
  | nil => intro i h; simp at h
  | snoc g he _ _ ih =>
    intro j hj
    rcases List.mem_append.mp hj with q | q
    · exact ih j q
    · rw [List.mem_singleton.mp q]
      exact (List.getElem?_eq_some_iff.mp he).1
theorem Grown.bits (g : Grown es root T R) : ∀ v, R.testBit v = true ↔ v = root ∨ v ∈ T.map (headOf es) := by
  induction g with
  | nil =>
    intro v
    rw [Nat.testBit_two_pow]
    simp [eq_comm]
  | snoc g he _ hb ih =>
    intro v
    rw [testBit_add_pow _ _ hb, Bool.or_eq_true, ih v, List.map_append, List.mem_append]
    simp only [List.map_cons, List.map_nil, List.mem_singleton, decide_eq_true_eq, headOf_eq he, or_assoc]
theorem Grown.heads (g : Grown es root T R) : (T.map (headOf es)).Nodup ∧ root ∉ T.map (headOf es) := by
  induction g with
  | nil => exact ⟨by simp, by simp⟩
  | @snoc T R i e g he _ hb ih =>
    have hb' := g.bits e.2
    rw [hb] at hb'
    have nb : ¬ (e.2 = root ∨ e.2 ∈ T.map (headOf es)) := fun z => by
      have := hb'.mpr z; cases this
    rw [List.map_append, List.map_cons, List.map_nil, headOf_eq he]
    refine ⟨?_, ?_⟩
    · rw [List.nodup_append]
      refine ⟨ih.1, by simp, fun a ha b hb2 => ?_⟩
      rw [List.mem_singleton.mp hb2]
      rintro rfl
      exact nb (.inr ha)
    · rw [List.mem_append]
      rintro (z | z)
      · exact ih.2 z
      · exact nb (.inl (List.mem_singleton.mp z).symm)
theorem Grown.size (g : Grown es root T R) {n : Nat} (hr : root < n) (hl : Links n es) : R < 2 ^ n := by
  induction g with
  | nil => exact Nat.pow_lt_pow_right (by decide) hr
  | snoc g he _ hb ih => exact add_pow_lt ih (hl _ (List.mem_of_getElem? he)).2.1 hb
/-- how many places of n a mask has -/
def pop (n m : Nat) : Nat := ((List.range n).filter m.testBit).length
theorem pop_add : ∀ (n R b : Nat), b < n → R.testBit b = false → pop n (R + 2 ^ b) = pop n R + 1
  | 0, _, _, h, _ => by omega
  | n + 1, R, b, h, hb => by
    have ip : ∀ m, pop (n + 1) m = pop n m + (if m.testBit n = true then 1 else 0) := fun m => by
      unfold pop
      rw [List.range_succ, List.filter_append, List.length_append]
      cases q : m.testBit n <;> simp [q]
    rw [ip, ip, testBit_add_pow b R hb]
    by_cases c : b = n
    · subst c
      have : pop b (R + 2 ^ b) = pop b R := by
        unfold pop
        congr 1
        refine List.filter_congr fun i hi => ?_
        rw [testBit_add_pow b R hb]
        have : i ≠ b := Nat.ne_of_lt (List.mem_range.mp hi)
        simp [this]
      rw [this, hb]; simp
    · have := pop_add n R b (by omega) hb
      have e : decide (n = b) = false := decide_eq_false fun z => c z.symm
      rw [this, e, Bool.or_false]; omega
theorem pop_two_pow {n r : Nat} (h : r < n) : pop n (2 ^ r) = 1 := by
  have e := pop_add n 0 r h (Nat.zero_testBit r)
  rw [Nat.zero_add] at e
  rw [e]
  have : pop n 0 = 0 := by
    unfold pop
    rw [List.length_eq_zero_iff, List.filter_eq_nil_iff]
    intro i _
    rw [Nat.zero_testBit]; decide
  omega
theorem pop_full (n : Nat) : pop n (2 ^ n - 1) = n := by
  unfold pop
  have e : (List.range n).filter (2 ^ n - 1).testBit = List.range n := List.filter_eq_self.mpr fun i hi => by
    rw [Nat.testBit_two_pow_sub_one]
    exact decide_eq_true (List.mem_range.mp hi)
  rw [e, List.length_range]
theorem Grown.pop {n : Nat} (g : Grown es root T R) (hr : root < n) (hl : Links n es) : pop n R = T.length + 1 := by
  induction g with
  | nil => rw [pop_two_pow hr]; rfl
  | snoc g he _ hb ih =>
    rw [pop_add n _ _ (hl _ (List.mem_of_getElem? he)).2.1 hb, ih, List.length_append]
    rfl
theorem Grown.nodup (g : Grown es root T R) : T.Nodup := List.Pairwise.of_map (headOf es) (fun _ _ h z => h (by rw [z])) g.heads.1
end Spt

set_option autoImplicit false
set_option maxRecDepth 100000
/-! the lots of places, fewest first: what combinations gives, plain -/
namespace Spt
def nextI (n : Nat) (indices : List Nat) : Option (List Nat) :=
  let r := indices.length
  match (List.range r).reverse.find? fun i => indices.getD i 0 != i + n - r with
  | none => none
  | some i => some (indices.take i ++ (List.range (r - i)).map (indices.getD i 0 + 1 + ·))
/-- all index lots from one on -/
def runF (n : Nat) : Nat → List Nat → List (List Nat)
  | 0, _ => []
  | f + 1, i => match nextI n i with
    | none => [i]
    | some j => i :: runF n f j
/-- whether it ends in time -/
def runE (n : Nat) : Nat → List Nat → Bool
  | 0, _ => false
  | f + 1, i => match nextI n i with
    | none => true
    | some j => runE n f j
def comb (n r : Nat) : List (List Nat) := runF n 300 (List.range r)
def lotsK (n : Nat) : Nat → List (List Nat)
  | 0 => []
  | k + 1 => lotsK n k ++ comb n (k + 1)
/-- all lots of places, fewest first -/
def lots (n : Nat) : List (List Nat) := lotsK n n
def maskOf (l : List Nat) : Nat := (l.map fun p => 2 ^ p).sum
def masks (n : Nat) : List Nat := (lots n).map maskOf
/-- the places of a mask -/
def bitsOf (n m : Nat) : List Nat := (List.range n).filter m.testBit
/-- Python's order of ascending lots of ints -/
def lexLt : List Nat → List Nat → Bool
  | [], [] => false
  | [], _ :: _ => true
  | _ :: _, [] => false
  | x :: xs, y :: ys => if x = y then lexLt xs ys else decide (x < y)
/-- (length, lot) ordered -/
def lotLt (a b : List Nat) : Bool := decide (a.length < b.length) || (decide (a.length = b.length) && lexLt a b)
def chainB : List (List Nat) → Bool
  | a :: b :: r => lotLt a b && chainB (b :: r)
  | _ => true
def ones (ms : List Nat) : Nat := ms.foldl (fun acc m => acc ||| 2 ^ m) 0
def checkN (n : Nat) : Bool :=
  (List.range n).all (fun k => runE n 300 (List.range (k + 1)) && decide ((comb n (k + 1)).length ≤ 300)) &&
  ((lots n).all (fun l => decide (bitsOf n (maskOf l) = l) && (decide (0 < maskOf l) && decide (maskOf l < 2 ^ n))) &&
  (chainB (lots n) && decide (ones (masks n) = 2 ^ (2 ^ n) - 2)))
theorem check_all : (List.range 9).all (fun k => checkN (k + 2)) = true := by decide +kernel
theorem check_n {n : Nat} (h2 : 2 ≤ n) (h : n ≤ 10) : checkN n = true := by
  have := List.all_eq_true.mp check_all (n - 2) (List.mem_range.mpr (by omega))
  rwa [show n - 2 + 2 = n by omega] at this

/-! ### what the check says -/
theorem check_run {n k : Nat} (h2 : 2 ≤ n) (h : n ≤ 10) (hk : k < n) : runE n 300 (List.range (k + 1)) = true ∧ (comb n (k + 1)).length ≤ 300 := by
  have c := check_n h2 h
  unfold checkN at c
  rw [Bool.and_eq_true] at c
  have := List.all_eq_true.mp c.1 k (List.mem_range.mpr hk)
  rw [Bool.and_eq_true] at this
  exact ⟨this.1, of_decide_eq_true this.2⟩
theorem lots_mem {n : Nat} (h2 : 2 ≤ n) (h : n ≤ 10) {l : List Nat} (hl : l ∈ lots n) : bitsOf n (maskOf l) = l ∧ 0 < maskOf l ∧ maskOf l < 2 ^ n := by
  have c := check_n h2 h
  unfold checkN at c
  rw [Bool.and_eq_true, Bool.and_eq_true] at c
  have := List.all_eq_true.mp c.2.1 l hl
  rw [Bool.and_eq_true, Bool.and_eq_true] at this
  exact ⟨of_decide_eq_true this.1, of_decide_eq_true this.2.1, of_decide_eq_true this.2.2⟩
theorem ones_bit (m : Nat) : ∀ (ms : List Nat) (acc : Nat), (ms.foldl (fun acc m => acc ||| 2 ^ m) acc).testBit m = true → acc.testBit m = true ∨ m ∈ ms
  | [], acc, h => .inl h
  | x :: r, acc, h => by
    rcases ones_bit m r _ h with q | q
    · rw [Nat.testBit_or, Bool.or_eq_true, Nat.testBit_two_pow] at q
      rcases q with q | q
      · exact .inl q
      · have : x = m := of_decide_eq_true q
        exact .inr (by rw [this]; exact List.mem_cons_self)
    · exact .inr (List.mem_cons_of_mem _ q)
theorem masks_all {n : Nat} (h2 : 2 ≤ n) (h : n ≤ 10) {m : Nat} (m0 : 0 < m) (mn : m < 2 ^ n) : m ∈ masks n := by
  have c := check_n h2 h
  unfold checkN at c
  rw [Bool.and_eq_true, Bool.and_eq_true, Bool.and_eq_true] at c
  have e := of_decide_eq_true c.2.2.2
  have hb : (ones (masks n)).testBit m = true := by
    rw [e, Nat.testBit_two_pow_sub_succ (x := 1) (by
      have : 2 ^ 1 ≤ 2 ^ (2 ^ n) := Nat.pow_le_pow_right (by decide) (Nat.one_le_two_pow)
      omega)]
    have : (1 : Nat).testBit m = false := by
      cases m with
      | zero => omega
      | succ m => rw [Nat.testBit_succ]; simp
    rw [this, decide_eq_true mn]
    rfl
  rcases ones_bit m (masks n) 0 hb with q | q
  · simp at q
  · exact q
theorem lots_of {n : Nat} (h2 : 2 ≤ n) (h : n ≤ 10) {m : Nat} (m0 : 0 < m) (mn : m < 2 ^ n) : bitsOf n m ∈ lots n := by
  obtain ⟨l, h1, h3⟩ := List.mem_map.mp (masks_all h2 h m0 mn)
  have := (lots_mem h2 h h1).1
  rw [h3] at this
  rw [this]
  exact h1
theorem lexLt_trans : ∀ {a b c : List Nat}, lexLt a b = true → lexLt b c = true → lexLt a c = true
  | [], [], _, h, _ => by simp [lexLt] at h
  | [], _ :: _, [], _, h => by simp [lexLt] at h
  | [], _ :: _, _ :: _, _, _ => rfl
  | _ :: _, [], _, h, _ => by simp [lexLt] at h
  | _ :: _, _ :: _, [], _, h => by simp [lexLt] at h
  | x :: a, y :: b, z :: c, h1, h2 => by
    unfold lexLt at h1 h2 ⊢
    by_cases e1 : x = y
    · subst e1
      rw [if_pos rfl] at h1
      by_cases e2 : x = z
      · rw [if_pos e2] at h2 ⊢
        exact lexLt_trans h1 h2
      · rw [if_neg e2] at h2 ⊢
        exact h2
    · rw [if_neg e1] at h1
      have h1 := of_decide_eq_true h1
      by_cases e2 : y = z
      · subst e2
        rw [if_neg e1]
        exact decide_eq_true h1
      · rw [if_neg e2] at h2
        have h2 := of_decide_eq_true h2
        rw [if_neg (by omega)]
        exact decide_eq_true (by omega)
theorem lexLt_irrefl : ∀ a : List Nat, lexLt a a = false
  | [] => rfl
  | x :: a => by
    unfold lexLt
    rw [if_pos rfl]
    exact lexLt_irrefl a
theorem lotLt_trans {a b c : List Nat} (h1 : lotLt a b = true) (h2 : lotLt b c = true) : lotLt a c = true := by
  unfold lotLt at *
  simp only [Bool.or_eq_true, Bool.and_eq_true, decide_eq_true_eq] at *
  rcases h1 with h1 | ⟨h1, g1⟩ <;> rcases h2 with h2 | ⟨h2, g2⟩
  · exact .inl (by omega)
  · exact .inl (by omega)
  · exact .inl (by omega)
  · exact .inr ⟨by omega, lexLt_trans g1 g2⟩
theorem lotLt_irrefl (a : List Nat) : lotLt a a = false := by
  unfold lotLt
  rw [lexLt_irrefl]
  simp
theorem chain_pw : ∀ {ls : List (List Nat)}, chainB ls = true → ls.Pairwise fun a b => lotLt a b = true
  | [], _ => .nil
  | [a], _ => List.pairwise_singleton _ _
  | a :: b :: r, h => by
    unfold chainB at h
    rw [Bool.and_eq_true] at h
    have ih := chain_pw h.2
    refine List.pairwise_cons.mpr ⟨fun c hc => ?_, ih⟩
    rcases List.mem_cons.mp hc with e | hc
    · rw [e]; exact h.1
    · exact lotLt_trans h.1 ((List.pairwise_cons.mp ih).1 c hc)
theorem lots_sorted {n : Nat} (h2 : 2 ≤ n) (h : n ≤ 10) : (lots n).Pairwise fun a b => lotLt a b = true := by
  have c := check_n h2 h
  unfold checkN at c
  rw [Bool.and_eq_true, Bool.and_eq_true, Bool.and_eq_true] at c
  exact chain_pw c.2.2.1
theorem lots_nodup {n : Nat} (h2 : 2 ≤ n) (h : n ≤ 10) : (lots n).Nodup := by
  refine List.Pairwise.imp (fun {a b} hab e => ?_) (lots_sorted h2 h)
  rw [e, lotLt_irrefl] at hab
  cases hab
theorem lotsK_len {n : Nat} (h2 : 2 ≤ n) (h : n ≤ 10) : ∀ k, k ≤ n → (lotsK n k).length ≤ 300 * k
  | 0, _ => Nat.le_refl _
  | k + 1, hk => by
    have := lotsK_len h2 h k (by omega)
    have := (check_run h2 h (k := k) (by omega)).2
    unfold lotsK
    rw [List.length_append]
    omega
theorem lots_len {n : Nat} (h2 : 2 ≤ n) (h : n ≤ 10) : (lots n).length ≤ 3000 := by
  have := lotsK_len h2 h n (Nat.le_refl n)
  unfold lots
  omega
theorem bitsOf_lt {n m i : Nat} (h : i ∈ bitsOf n m) : i < n := List.mem_range.mp (List.mem_filter.mp h).1
theorem mem_bitsOf {n m i : Nat} : i ∈ bitsOf n m ↔ i < n ∧ m.testBit i = true := by
  unfold bitsOf
  rw [List.mem_filter, List.mem_range]
theorem lots_lt {n : Nat} (h2 : 2 ≤ n) (h : n ≤ 10) {l : List Nat} (hl : l ∈ lots n) : ∀ i ∈ l, i < n := fun i hi => by
  have := (lots_mem h2 h hl).1
  rw [← this] at hi
  exact bitsOf_lt hi
theorem lots_bit {n : Nat} (h2 : 2 ≤ n) (h : n ≤ 10) {l : List Nat} (hl : l ∈ lots n) {i : Nat} (hi : i < n) : (maskOf l).testBit i = decide (i ∈ l) := by
  have e := (lots_mem h2 h hl).1
  rw [Bool.eq_iff_iff, decide_eq_true_eq]
  constructor
  · intro hb
    rw [← e]
    exact mem_bitsOf.mpr ⟨hi, hb⟩
  · intro hm
    rw [← e] at hm
    exact (mem_bitsOf.mp hm).2
theorem lots_size {n : Nat} (h2 : 2 ≤ n) (h : n ≤ 10) {l : List Nat} (hl : l ∈ lots n) : l.length ≤ 10 := by
  have := (lots_mem h2 h hl).1
  rw [← this]
  unfold bitsOf
  exact Nat.le_trans (List.length_filter_le _ _) (by rw [List.length_range]; exact h)
end Spt

set_option Elab.async false
set_option linter.all false
set_option maxRecDepth 100000
set_option maxHeartbeats 4000000

/-! the program's text by places; what the top leaves (Txt) -/
namespace Spt
open PySem PySem.Spec PyProof.Rows L2
def topS (i : Nat) : Stmt := PySem.Challenge.pw_sparetrees_k22_whole_rates_and_loads.main.body.getD i (.Pass ⟨0, 0, 0, 0⟩)
abbrev sPIsInteger : Stmt := topS 2
abbrev sPIsWithin : Stmt := topS 3
abbrev sPIsPair : Stmt := topS 4
abbrev sPIsLot : Stmt := topS 5
abbrev sCBadNetInit : Stmt := inClass (topS 8) 0
abbrev sCBarredInit : Stmt := inClass (topS 11) 0
abbrev sCNetInit : Stmt := inClass (topS 17) 0
abbrev sCNetEq : Stmt := inClass (topS 17) 1
abbrev sPIsLink : Stmt := topS 18
abbrev sPCheckNet : Stmt := topS 19
abbrev sPIsLotOf : Stmt := topS 20
abbrev sPAllLots : Stmt := topS 21
abbrev sPAllSides : Stmt := topS 22
abbrev sPDoesEnter : Stmt := topS 23
abbrev sPEnteringOf : Stmt := topS 24
abbrev sPEveryLink : Stmt := topS 25
abbrev sPCheckNumber : Stmt := topS 26
abbrev sPMaskOf : Stmt := topS 28
abbrev sCGrowingInit : Stmt := inClass (topS 29) 0
abbrev sCGrowingLotsEntered : Stmt := inClass (topS 29) 1
abbrev sCGrowingPartsApart : Stmt := inClass (topS 29) 2
abbrev sCGrowingLacking : Stmt := inClass (topS 29) 3
abbrev sCGrowingHasHeard : Stmt := inClass (topS 29) 4
abbrev sCGrowingIsSafe : Stmt := inClass (topS 29) 5
abbrev sCGrowingTake : Stmt := inClass (topS 29) 6
abbrev sCGrowingGrow : Stmt := inClass (topS 29) 7
abbrev sCGrowingGrown : Stmt := inClass (topS 29) 8
abbrev sPGrowing : Stmt := topS 30
abbrev sPReached : Stmt := topS 32
abbrev sPIsWood : Stmt := topS 33
abbrev sPIsGrown : Stmt := topS 34
abbrev sPIsTree : Stmt := topS 35
abbrev sPCheckWidths : Stmt := topS 39
abbrev sPWidthInto : Stmt := topS 40
abbrev sPRate : Stmt := topS 41
abbrev sPLoads : Stmt := topS 42
abbrev sPIsLoad : Stmt := topS 43
abbrev sPAreLoads : Stmt := topS 44
abbrev sLMixed : Stmt := topS 46
abbrev sLHand : Stmt := topS 47
abbrev sLDraw : Stmt := topS 48
abbrev sLIs : Stmt := topS 49
abbrev sLIsInt : Stmt := topS 50
abbrev sLIsLot : Stmt := topS 51
abbrev sLShuffled : Stmt := topS 52
abbrev sLSomeTree : Stmt := topS 53
abbrev sLSomeLinks : Stmt := topS 54
abbrev sLPartsOf : Stmt := topS 55
abbrev sLLots : Stmt := topS 56
abbrev sLSides : Stmt := topS 57
abbrev sLEntering : Stmt := topS 58
abbrev sLIsWood : Stmt := topS 59
abbrev sLBarred : Stmt := topS 60
abbrev sLWidthInto : Stmt := topS 61
abbrev sLAreLoads : Stmt := topS 62
abbrev sLSomeWidths : Stmt := topS 63
abbrev sLIsAnswered : Stmt := topS 64
abbrev sLaw : Stmt := topS 65
def dPIsInteger : He.DefD := ⟨("is_integer", none), "is_integer", "is_integer", defArgs sPIsInteger, defBody sPIsInteger, defScope sPIsInteger, [], []⟩
def dPIsWithin : He.DefD := ⟨("is_within", none), "is_within", "is_within", defArgs sPIsWithin, defBody sPIsWithin, defScope sPIsWithin, [], []⟩
def dPIsPair : He.DefD := ⟨("is_pair", none), "is_pair", "is_pair", defArgs sPIsPair, defBody sPIsPair, defScope sPIsPair, [], []⟩
def dPIsLot : He.DefD := ⟨("is_lot", none), "is_lot", "is_lot", defArgs sPIsLot, defBody sPIsLot, defScope sPIsLot, [], []⟩
def dCBadNetInit : He.DefD := ⟨("BadNet", some "__init__"), "__init__", "BadNet.__init__", defArgs sCBadNetInit, defBody sCBadNetInit, defScope sCBadNetInit, [], []⟩
def dCBarredInit : He.DefD := ⟨("Barred", some "__init__"), "__init__", "Barred.__init__", defArgs sCBarredInit, defBody sCBarredInit, defScope sCBarredInit, [], []⟩
def dCNetInit : He.DefD := ⟨("Net", some "__init__"), "__init__", "Net.__init__", defArgs sCNetInit, defBody sCNetInit, defScope sCNetInit, [], []⟩
def dCNetEq : He.DefD := ⟨("Net", some "__eq__"), "__eq__", "Net.__eq__", defArgs sCNetEq, defBody sCNetEq, defScope sCNetEq, [], []⟩
def dPIsLink : He.DefD := ⟨("is_link", none), "is_link", "is_link", defArgs sPIsLink, defBody sPIsLink, defScope sPIsLink, [], []⟩
def dPCheckNet : He.DefD := ⟨("check_net", none), "check_net", "check_net", defArgs sPCheckNet, defBody sPCheckNet, defScope sPCheckNet, [], []⟩
def dPIsLotOf : He.DefD := ⟨("is_lot_of", none), "is_lot_of", "is_lot_of", defArgs sPIsLotOf, defBody sPIsLotOf, defScope sPIsLotOf, [], []⟩
def dPAllLots : He.DefD := ⟨("all_lots", none), "all_lots", "all_lots", defArgs sPAllLots, defBody sPAllLots, defScope sPAllLots, [], []⟩
def dPAllSides : He.DefD := ⟨("all_sides", none), "all_sides", "all_sides", defArgs sPAllSides, defBody sPAllSides, defScope sPAllSides, [], []⟩
def dPDoesEnter : He.DefD := ⟨("does_enter", none), "does_enter", "does_enter", defArgs sPDoesEnter, defBody sPDoesEnter, defScope sPDoesEnter, [], []⟩
def dPEnteringOf : He.DefD := ⟨("entering_of", none), "entering_of", "entering_of", defArgs sPEnteringOf, defBody sPEnteringOf, defScope sPEnteringOf, [], []⟩
def dPEveryLink : He.DefD := ⟨("every_link", none), "every_link", "every_link", defArgs sPEveryLink, defBody sPEveryLink, defScope sPEveryLink, [], []⟩
def dPCheckNumber : He.DefD := ⟨("check_number", none), "check_number", "check_number", defArgs sPCheckNumber, defBody sPCheckNumber, defScope sPCheckNumber, [], []⟩
def dPMaskOf : He.DefD := ⟨("mask_of", none), "mask_of", "mask_of", defArgs sPMaskOf, defBody sPMaskOf, defScope sPMaskOf, [], []⟩
def dCGrowingInit : He.DefD := ⟨("Growing", some "__init__"), "__init__", "Growing.__init__", defArgs sCGrowingInit, defBody sCGrowingInit, defScope sCGrowingInit, [], []⟩
def dCGrowingLotsEntered : He.DefD := ⟨("Growing", some "lots_entered"), "lots_entered", "Growing.lots_entered", defArgs sCGrowingLotsEntered, defBody sCGrowingLotsEntered, defScope sCGrowingLotsEntered, [], []⟩
def dCGrowingPartsApart : He.DefD := ⟨("Growing", some "parts_apart"), "parts_apart", "Growing.parts_apart", defArgs sCGrowingPartsApart, defBody sCGrowingPartsApart, defScope sCGrowingPartsApart, [], []⟩
def dCGrowingLacking : He.DefD := ⟨("Growing", some "lacking"), "lacking", "Growing.lacking", defArgs sCGrowingLacking, defBody sCGrowingLacking, defScope sCGrowingLacking, [], []⟩
def dCGrowingHasHeard : He.DefD := ⟨("Growing", some "has_heard"), "has_heard", "Growing.has_heard", defArgs sCGrowingHasHeard, defBody sCGrowingHasHeard, defScope sCGrowingHasHeard, [], []⟩
def dCGrowingIsSafe : He.DefD := ⟨("Growing", some "is_safe"), "is_safe", "Growing.is_safe", defArgs sCGrowingIsSafe, defBody sCGrowingIsSafe, defScope sCGrowingIsSafe, [], []⟩
def dCGrowingTake : He.DefD := ⟨("Growing", some "take"), "take", "Growing.take", defArgs sCGrowingTake, defBody sCGrowingTake, defScope sCGrowingTake, [], []⟩
def dCGrowingGrow : He.DefD := ⟨("Growing", some "grow"), "grow", "Growing.grow", defArgs sCGrowingGrow, defBody sCGrowingGrow, defScope sCGrowingGrow, [], []⟩
def dCGrowingGrown : He.DefD := ⟨("Growing", some "grown"), "grown", "Growing.grown", defArgs sCGrowingGrown, defBody sCGrowingGrown, defScope sCGrowingGrown, [], []⟩
def dPGrowing : He.DefD := ⟨("growing", none), "growing", "growing", defArgs sPGrowing, defBody sPGrowing, defScope sPGrowing, [], []⟩
def dPReached : He.DefD := ⟨("reached", none), "reached", "reached", defArgs sPReached, defBody sPReached, defScope sPReached, [], []⟩
def dPIsWood : He.DefD := ⟨("is_wood", none), "is_wood", "is_wood", defArgs sPIsWood, defBody sPIsWood, defScope sPIsWood, [], []⟩
def dPIsGrown : He.DefD := ⟨("is_grown", none), "is_grown", "is_grown", defArgs sPIsGrown, defBody sPIsGrown, defScope sPIsGrown, [], []⟩
def dPIsTree : He.DefD := ⟨("is_tree", none), "is_tree", "is_tree", defArgs sPIsTree, defBody sPIsTree, defScope sPIsTree, [], []⟩
def dPCheckWidths : He.DefD := ⟨("check_widths", none), "check_widths", "check_widths", defArgs sPCheckWidths, defBody sPCheckWidths, defScope sPCheckWidths, [], []⟩
def dPWidthInto : He.DefD := ⟨("width_into", none), "width_into", "width_into", defArgs sPWidthInto, defBody sPWidthInto, defScope sPWidthInto, [], []⟩
def dPRate : He.DefD := ⟨("rate", none), "rate", "rate", defArgs sPRate, defBody sPRate, defScope sPRate, [], []⟩
def dPLoads : He.DefD := ⟨("loads", none), "loads", "loads", defArgs sPLoads, defBody sPLoads, defScope sPLoads, [], []⟩
def dPIsLoad : He.DefD := ⟨("is_load", none), "is_load", "is_load", defArgs sPIsLoad, defBody sPIsLoad, defScope sPIsLoad, [], []⟩
def dPAreLoads : He.DefD := ⟨("are_loads", none), "are_loads", "are_loads", defArgs sPAreLoads, defBody sPAreLoads, defScope sPAreLoads, [], []⟩
def dLMixed : He.DefD := ⟨("_law_mixed", none), "_law_mixed", "_law_mixed", defArgs sLMixed, defBody sLMixed, defScope sLMixed, [], []⟩
def dLHand : He.DefD := ⟨("_law_hand", none), "_law_hand", "_law_hand", defArgs sLHand, defBody sLHand, defScope sLHand, [], []⟩
def dLDraw : He.DefD := ⟨("_law_draw", none), "_law_draw", "_law_draw", defArgs sLDraw, defBody sLDraw, defScope sLDraw, [], []⟩
def dLIs : He.DefD := ⟨("_law_is", none), "_law_is", "_law_is", defArgs sLIs, defBody sLIs, defScope sLIs, [], []⟩
def dLIsInt : He.DefD := ⟨("_law_is_int", none), "_law_is_int", "_law_is_int", defArgs sLIsInt, defBody sLIsInt, defScope sLIsInt, [], []⟩
def dLIsLot : He.DefD := ⟨("_law_is_lot", none), "_law_is_lot", "_law_is_lot", defArgs sLIsLot, defBody sLIsLot, defScope sLIsLot, [], []⟩
def dLShuffled : He.DefD := ⟨("_law_shuffled", none), "_law_shuffled", "_law_shuffled", defArgs sLShuffled, defBody sLShuffled, defScope sLShuffled, [], []⟩
def dLSomeTree : He.DefD := ⟨("_law_some_tree", none), "_law_some_tree", "_law_some_tree", defArgs sLSomeTree, defBody sLSomeTree, defScope sLSomeTree, [], []⟩
def dLSomeLinks : He.DefD := ⟨("_law_some_links", none), "_law_some_links", "_law_some_links", defArgs sLSomeLinks, defBody sLSomeLinks, defScope sLSomeLinks, [], []⟩
def dLPartsOf : He.DefD := ⟨("_law_parts_of", none), "_law_parts_of", "_law_parts_of", defArgs sLPartsOf, defBody sLPartsOf, defScope sLPartsOf, [], []⟩
def dLLots : He.DefD := ⟨("_law_lots", none), "_law_lots", "_law_lots", defArgs sLLots, defBody sLLots, defScope sLLots, [], []⟩
def dLSides : He.DefD := ⟨("_law_sides", none), "_law_sides", "_law_sides", defArgs sLSides, defBody sLSides, defScope sLSides, [], []⟩
def dLEntering : He.DefD := ⟨("_law_entering", none), "_law_entering", "_law_entering", defArgs sLEntering, defBody sLEntering, defScope sLEntering, [], []⟩
def dLIsWood : He.DefD := ⟨("_law_is_wood", none), "_law_is_wood", "_law_is_wood", defArgs sLIsWood, defBody sLIsWood, defScope sLIsWood, [], []⟩
def dLBarred : He.DefD := ⟨("_law_barred", none), "_law_barred", "_law_barred", defArgs sLBarred, defBody sLBarred, defScope sLBarred, [], []⟩
def dLWidthInto : He.DefD := ⟨("_law_width_into", none), "_law_width_into", "_law_width_into", defArgs sLWidthInto, defBody sLWidthInto, defScope sLWidthInto, [], []⟩
def dLAreLoads : He.DefD := ⟨("_law_are_loads", none), "_law_are_loads", "_law_are_loads", defArgs sLAreLoads, defBody sLAreLoads, defScope sLAreLoads, [], []⟩
def dLSomeWidths : He.DefD := ⟨("_law_some_widths", none), "_law_some_widths", "_law_some_widths", defArgs sLSomeWidths, defBody sLSomeWidths, defScope sLSomeWidths, [], []⟩
def dLIsAnswered : He.DefD := ⟨("_law_is_answered", none), "_law_is_answered", "_law_is_answered", defArgs sLIsAnswered, defBody sLIsAnswered, defScope sLIsAnswered, [], []⟩
def dLaw : He.DefD := ⟨("law", none), "law", "law", defArgs sLaw, defBody sLaw, defScope sLaw, [], []⟩
def fn0 : List He.DefD := [dPIsInteger, dPIsWithin, dPIsPair, dPIsLot, dCBadNetInit, dCBarredInit, dCNetInit, dCNetEq, dPIsLink, dPCheckNet, dPIsLotOf, dPAllLots, dPAllSides, dPDoesEnter, dPEnteringOf, dPEveryLink, dPCheckNumber, dPMaskOf, dCGrowingInit, dCGrowingLotsEntered]
def fn1 : List He.DefD := [dCGrowingPartsApart, dCGrowingLacking, dCGrowingHasHeard, dCGrowingIsSafe, dCGrowingTake, dCGrowingGrow, dCGrowingGrown, dPGrowing, dPReached, dPIsWood, dPIsGrown, dPIsTree, dPCheckWidths, dPWidthInto, dPRate, dPLoads, dPIsLoad, dPAreLoads, dLMixed, dLHand]
def fn2 : List He.DefD := [dLDraw, dLIs, dLIsInt, dLIsLot, dLShuffled, dLSomeTree, dLSomeLinks, dLPartsOf, dLLots, dLSides, dLEntering, dLIsWood, dLBarred, dLWidthInto, dLAreLoads, dLSomeWidths, dLIsAnswered, dLaw]
def fnAll : List He.DefD := fn0 ++ fn1 ++ fn2
def fa0 : List He.Fa := [.free "isinstance", .free "int", .free "bool", .free "tuple", .free "len", .free "range", .free "list", .free "sum", .free "all", .free "any", .free "min", .free "max", .free "sorted", .free "set", .free "dict", .free "enumerate", .free "zip", .free "abs", .free "repr", .glo "is_integer"]
def fa1 : List He.Fa := [.glo "is_within", .glo "is_pair", .glo "is_lot", .glo "is_link", .glo "check_net", .glo "is_lot_of", .glo "all_lots", .glo "all_sides", .glo "does_enter", .glo "entering_of", .glo "every_link", .glo "check_number", .glo "mask_of", .glo "growing", .glo "reached", .glo "is_wood", .glo "is_grown", .glo "is_tree", .glo "check_widths", .glo "width_into"]
def fa2 : List He.Fa := [.glo "rate", .glo "loads", .glo "is_load", .glo "are_loads", .glo "_law_mixed", .glo "_law_hand", .glo "_law_draw", .glo "_law_is", .glo "_law_is_int", .glo "_law_is_lot", .glo "_law_shuffled", .glo "_law_some_tree", .glo "_law_some_links", .glo "_law_parts_of", .glo "_law_lots", .glo "_law_sides", .glo "_law_entering", .glo "_law_is_wood", .glo "_law_barred", .glo "_law_width_into"]
def fa3 : List He.Fa := [.glo "_law_are_loads", .glo "_law_some_widths", .glo "_law_is_answered", .glo "law", .glo "TreeError", .glo "BadNet", .glo "NoNet", .glo "NoNumber", .glo "Barred", .glo "NoWidths", .glo "Net", .glo "Growing", .int "LEAST_PLACES" 2, .int "MOST_PLACES" 10, .int "MOST_LINKS" 60, .int "MOST_WIDTH" 20, .int "MOST_RATE" 40, .cls "Net", .cls "Growing", .noat "Net" "many"]
def fa4 : List He.Fa := [.noat "Net" "root", .noat "Net" "links", .noat "Growing" "kept_many", .noat "Growing" "kept_ends", .noat "Growing" "kept_uses", .noat "Growing" "kept_heard", .noat "Growing" "kept_parts", .noat "Growing" "kept_lots", .noat "Growing" "kept_masks", .noat "Growing" "kept_into", .noat "Growing" "kept_entered", .noat "Growing" "kept_needed", .meth "Growing" "lots_entered", .meth "Growing" "parts_apart", .meth "Growing" "lacking", .meth "Growing" "has_heard", .meth "Growing" "is_safe", .meth "Growing" "take", .meth "Growing" "grow", .meth "Growing" "grown"]
def fa5 : List He.Fa := [.mkr "Net", .mkr "Growing", .exm "Barred" "Barred" true, .exm "Barred" "TreeError" true, .exm "Barred" "NoNumber" false]
def faAll : List He.Fa := fa0 ++ fa1 ++ fa2 ++ fa3 ++ fa4 ++ fa5
def tabDefs : List He.Defn := [("_law_is_answered", none), ("law", none)]
/-! ### further facts: combinations, isinstance of a Net, the error Barred -/
def combB (K : PySem.W.Frag) : Bool := (match PySem.W.nsIn K mainGlobals "combinations" with
  | some (some (.type n)) => decide (n = "itertools.combinations")
  | _ => false)
theorem comb_ok {K : PySem.W.Frag} {h : Heap} {mg : Str → Option Value} (X : K.In h) (G : h.Ns mainGlobals mg) (c : combB K = true) : mg "combinations" = some (.type "itertools.combinations") := by
  unfold combB at c
  split at c
  · rename_i n e
    have := of_decide_eq_true c
    subst this
    exact PySem.W.mg_of X G e
  · cases c
/-- what isinstance leans on -/
def insB (K : PySem.W.Frag) (C : Addr) : Bool := He.eqO (PySem.W.findIn K (.ref C) "__class__") (some (some (.builtin "object.__class__"))) &&
  (He.eqO (PySem.W.specialIn K (.builtin "object.__class__") "__get__") (some (some (.builtin "getset_descriptor.__get__"))) &&
  (decide (PySem.W.takesIn K (.builtin "object.__class__") = some true) && (decide (PySem.W.mroIn K C (.type "object") = some true) && decide (PySem.W.kitOne K (.ref C) (.ref C) = some true))))
/-- an own exception class over another one, as made -/
def oexB (K : PySem.W.Frag) (C : Addr) : Bool := match K.lookup C with
  | some ⟨.type "type", _, .cls cd, sl⟩ => (match cd.mro, sl.toList with
    | .ref C' :: bm, [_, _, _, _, some (.builtin n), _] => decide (C' = C) && (decide (n = "ValueError.__new__") && (!cd.hasDel && (cd.hasDict && PySem.HandSPX.refsVE bm)))
    | _, _ => false)
  | _ => false
def oexMore (K : PySem.W.Frag) (C : Addr) : Bool := He.eqO (PySem.W.findIn K (.ref C) "__setattr__") (some (some (.builtin "object.__setattr__"))) &&
  (decide (PySem.W.subIn K (.ref C) (.type "BaseException") = some true) && (decide (PySem.W.typeIn K (.ref C) = some (.type "type")) && PySem.W.keepIn K (.ref C)))
theorem oex_ok {K : PySem.W.Frag} {C : Addr} (h1 : oexB K C = true) (h2 : oexMore K C = true) : OexC K C := by
  obtain ⟨a1, h2⟩ := He.ba h2
  obtain ⟨a2, h2⟩ := He.ba h2
  obtain ⟨a3, a4⟩ := He.ba h2
  refine ⟨?_, He.eqO_ok a1, of_decide_eq_true a2, of_decide_eq_true a3, a4⟩
  unfold oexB at h1
  split at h1
  · rename_i dd cd sl ho
    split at h1
    · rename_i C' bm k0 k1 k2 k3 n k5 hm hs
      obtain ⟨c1, h1⟩ := He.ba h1
      obtain ⟨c2, h1⟩ := He.ba h1
      obtain ⟨c3, h1⟩ := He.ba h1
      obtain ⟨c4, c5⟩ := He.ba h1
      have c1 := of_decide_eq_true c1
      have c2 := of_decide_eq_true c2
      subst c1 c2
      obtain ⟨nm, bs, mro, ns, qn, hd, sn, sub, ab, col, del⟩ := cd
      dsimp only at hm c3 c4
      subst hm c4
      have c3 : del = false := by cases del <;> simp_all
      subst c3
      have hsl : sl = #[k0, k1, k2, k3, some (.builtin "ValueError.__new__"), k5] := by
        obtain ⟨l⟩ := sl
        simp only at hs
        rw [hs]
      subst hsl
      exact ⟨nm, qn, ns, bs, bm, sn, sub, ab, col, dd, k0, k1, k2, k3, k5, ho, c5⟩
    · cases h1
  · cases h1
/-- the error Barred: what its instances' fields and isinstance lean on -/
def barB (K : PySem.W.Frag) (C : Addr) : Bool := xfB K C && (He.eqO (PySem.W.findIn K (.ref C) "side") (some none) && (He.eqO (PySem.W.findIn K (.ref C) "__init__") (some (some (.ref (He.ma K C "__init__")))) &&
  (decide (PySem.W.typeIn K (.ref (He.ma K C "__init__")) = some (.type "function")) && (decide (PySem.W.kitOne K (.ref C) (.ref (He.ga K "TreeError")) = some true) && decide (PySem.W.kitOne K (.ref C) (.ref (He.ga K "NoNumber")) = some false)))))
def exAll (K : PySem.W.Frag) : Bool := combB K && (insB K (He.ga K "Net") && (oexB K (He.ga K "Barred") && (oexMore K (He.ga K "Barred") && (insB K (He.ga K "Barred") && barB K (He.ga K "Barred")))))
structure InsF (K : PySem.W.Frag) (C : Addr) : Prop where
  ha : PySem.W.findIn K (.ref C) "__class__" = some (some (.builtin "object.__class__"))
  hn : PySem.W.specialIn K (.builtin "object.__class__") "__get__" = some (some (.builtin "getset_descriptor.__get__"))
  ht : PySem.W.takesIn K (.builtin "object.__class__") = some true
  hm : PySem.W.mroIn K C (.type "object") = some true
  me : PySem.W.kitOne K (.ref C) (.ref C) = some true
theorem ins_ok {K : PySem.W.Frag} {C : Addr} (h : insB K C = true) : InsF K C := by
  obtain ⟨a1, h⟩ := He.ba h
  obtain ⟨a2, h⟩ := He.ba h
  obtain ⟨a3, h⟩ := He.ba h
  obtain ⟨a4, a5⟩ := He.ba h
  exact ⟨He.eqO_ok a1, He.eqO_ok a2, of_decide_eq_true a3, of_decide_eq_true a4, of_decide_eq_true a5⟩
structure ExFacts (K : PySem.W.Frag) (mg : Str → Option Value) : Prop where
  comb : mg "combinations" = some (.type "itertools.combinations")
  net : InsF K (He.ga K "Net")
  oex : OexC K (He.ga K "Barred")
  bar : InsF K (He.ga K "Barred")
  xf : XfC K (He.ga K "Barred")
  noSide : PySem.W.findIn K (.ref (He.ga K "Barred")) "side" = some none
  init : PySem.W.findIn K (.ref (He.ga K "Barred")) "__init__" = some (some (.ref (He.ma K (He.ga K "Barred") "__init__")))
  initT : PySem.W.typeIn K (.ref (He.ma K (He.ga K "Barred") "__init__")) = some (.type "function")
  isT : PySem.W.kitOne K (.ref (He.ga K "Barred")) (.ref (He.ga K "TreeError")) = some true
  isN : PySem.W.kitOne K (.ref (He.ga K "Barred")) (.ref (He.ga K "NoNumber")) = some false
theorem exAll_ok {K : PySem.W.Frag} {h : Heap} {mg : Str → Option Value} (X : K.In h) (G : h.Ns mainGlobals mg) (c : exAll K = true) : ExFacts K mg := by
  obtain ⟨a1, c⟩ := He.ba c
  obtain ⟨a2, c⟩ := He.ba c
  obtain ⟨a3, c⟩ := He.ba c
  obtain ⟨a4, c⟩ := He.ba c
  obtain ⟨a5, c⟩ := He.ba c
  obtain ⟨b1, c⟩ := He.ba c
  obtain ⟨b2, c⟩ := He.ba c
  obtain ⟨b3, c⟩ := He.ba c
  obtain ⟨b4, c⟩ := He.ba c
  obtain ⟨b5, b6⟩ := He.ba c
  exact ⟨comb_ok X G a1, ins_ok a2, oex_ok a3 a4, ins_ok a5, xfB_ok b1, He.eqO_ok b2, He.eqO_ok b3, of_decide_eq_true b4, of_decide_eq_true b5, of_decide_eq_true b6⟩
/-- what the walks ask of the top -/
structure Txt (K : PySem.W.Frag) (mg : Str → Option Value) : Prop where
  f_isinstance : mg "isinstance" = none
  f_int : mg "int" = none
  f_bool : mg "bool" = none
  f_tuple : mg "tuple" = none
  f_len : mg "len" = none
  f_range : mg "range" = none
  f_list : mg "list" = none
  f_sum : mg "sum" = none
  f_all : mg "all" = none
  f_any : mg "any" = none
  f_min : mg "min" = none
  f_max : mg "max" = none
  f_sorted : mg "sorted" = none
  f_set : mg "set" = none
  f_dict : mg "dict" = none
  f_enumerate : mg "enumerate" = none
  f_zip : mg "zip" = none
  f_abs : mg "abs" = none
  f_repr : mg "repr" = none
  g_is_integer : mg "is_integer" = some (.ref (He.ga K "is_integer"))
  g_is_within : mg "is_within" = some (.ref (He.ga K "is_within"))
  g_is_pair : mg "is_pair" = some (.ref (He.ga K "is_pair"))
  g_is_lot : mg "is_lot" = some (.ref (He.ga K "is_lot"))
  g_is_link : mg "is_link" = some (.ref (He.ga K "is_link"))
  g_check_net : mg "check_net" = some (.ref (He.ga K "check_net"))
  g_is_lot_of : mg "is_lot_of" = some (.ref (He.ga K "is_lot_of"))
  g_all_lots : mg "all_lots" = some (.ref (He.ga K "all_lots"))
  g_all_sides : mg "all_sides" = some (.ref (He.ga K "all_sides"))
  g_does_enter : mg "does_enter" = some (.ref (He.ga K "does_enter"))
  g_entering_of : mg "entering_of" = some (.ref (He.ga K "entering_of"))
  g_every_link : mg "every_link" = some (.ref (He.ga K "every_link"))
  g_check_number : mg "check_number" = some (.ref (He.ga K "check_number"))
  g_mask_of : mg "mask_of" = some (.ref (He.ga K "mask_of"))
  g_growing : mg "growing" = some (.ref (He.ga K "growing"))
  g_reached : mg "reached" = some (.ref (He.ga K "reached"))
  g_is_wood : mg "is_wood" = some (.ref (He.ga K "is_wood"))
  g_is_grown : mg "is_grown" = some (.ref (He.ga K "is_grown"))
  g_is_tree : mg "is_tree" = some (.ref (He.ga K "is_tree"))
  g_check_widths : mg "check_widths" = some (.ref (He.ga K "check_widths"))
  g_width_into : mg "width_into" = some (.ref (He.ga K "width_into"))
  g_rate : mg "rate" = some (.ref (He.ga K "rate"))
  g_loads : mg "loads" = some (.ref (He.ga K "loads"))
  g_is_load : mg "is_load" = some (.ref (He.ga K "is_load"))
  g_are_loads : mg "are_loads" = some (.ref (He.ga K "are_loads"))
  g__law_mixed : mg "_law_mixed" = some (.ref (He.ga K "_law_mixed"))
  g__law_hand : mg "_law_hand" = some (.ref (He.ga K "_law_hand"))
  g__law_draw : mg "_law_draw" = some (.ref (He.ga K "_law_draw"))
  g__law_is : mg "_law_is" = some (.ref (He.ga K "_law_is"))
  g__law_is_int : mg "_law_is_int" = some (.ref (He.ga K "_law_is_int"))
  g__law_is_lot : mg "_law_is_lot" = some (.ref (He.ga K "_law_is_lot"))
  g__law_shuffled : mg "_law_shuffled" = some (.ref (He.ga K "_law_shuffled"))
  g__law_some_tree : mg "_law_some_tree" = some (.ref (He.ga K "_law_some_tree"))
  g__law_some_links : mg "_law_some_links" = some (.ref (He.ga K "_law_some_links"))
  g__law_parts_of : mg "_law_parts_of" = some (.ref (He.ga K "_law_parts_of"))
  g__law_lots : mg "_law_lots" = some (.ref (He.ga K "_law_lots"))
  g__law_sides : mg "_law_sides" = some (.ref (He.ga K "_law_sides"))
  g__law_entering : mg "_law_entering" = some (.ref (He.ga K "_law_entering"))
  g__law_is_wood : mg "_law_is_wood" = some (.ref (He.ga K "_law_is_wood"))
  g__law_barred : mg "_law_barred" = some (.ref (He.ga K "_law_barred"))
  g__law_width_into : mg "_law_width_into" = some (.ref (He.ga K "_law_width_into"))
  g__law_are_loads : mg "_law_are_loads" = some (.ref (He.ga K "_law_are_loads"))
  g__law_some_widths : mg "_law_some_widths" = some (.ref (He.ga K "_law_some_widths"))
  g__law_is_answered : mg "_law_is_answered" = some (.ref (He.ga K "_law_is_answered"))
  g_law : mg "law" = some (.ref (He.ga K "law"))
  g_TreeError : mg "TreeError" = some (.ref (He.ga K "TreeError"))
  g_BadNet : mg "BadNet" = some (.ref (He.ga K "BadNet"))
  g_NoNet : mg "NoNet" = some (.ref (He.ga K "NoNet"))
  g_NoNumber : mg "NoNumber" = some (.ref (He.ga K "NoNumber"))
  g_Barred : mg "Barred" = some (.ref (He.ga K "Barred"))
  g_NoWidths : mg "NoWidths" = some (.ref (He.ga K "NoWidths"))
  g_Net : mg "Net" = some (.ref (He.ga K "Net"))
  g_Growing : mg "Growing" = some (.ref (He.ga K "Growing"))
  i_LEAST_PLACES : ∃ t, mg "LEAST_PLACES" = some (.int 2 t)
  i_MOST_PLACES : ∃ t, mg "MOST_PLACES" = some (.int 10 t)
  i_MOST_LINKS : ∃ t, mg "MOST_LINKS" = some (.int 60 t)
  i_MOST_WIDTH : ∃ t, mg "MOST_WIDTH" = some (.int 20 t)
  i_MOST_RATE : ∃ t, mg "MOST_RATE" = some (.int 40 t)
  c_Net : Cls K (He.ga K "Net")
  c_Growing : Cls K (He.ga K "Growing")
  n_many : NoAttr K (He.ga K "Net") "many"
  n_root : NoAttr K (He.ga K "Net") "root"
  n_links : NoAttr K (He.ga K "Net") "links"
  n_kept_many : NoAttr K (He.ga K "Growing") "kept_many"
  n_kept_ends : NoAttr K (He.ga K "Growing") "kept_ends"
  n_kept_uses : NoAttr K (He.ga K "Growing") "kept_uses"
  n_kept_heard : NoAttr K (He.ga K "Growing") "kept_heard"
  n_kept_parts : NoAttr K (He.ga K "Growing") "kept_parts"
  n_kept_lots : NoAttr K (He.ga K "Growing") "kept_lots"
  n_kept_masks : NoAttr K (He.ga K "Growing") "kept_masks"
  n_kept_into : NoAttr K (He.ga K "Growing") "kept_into"
  n_kept_entered : NoAttr K (He.ga K "Growing") "kept_entered"
  n_kept_needed : NoAttr K (He.ga K "Growing") "kept_needed"
  m_lots_entered : Meth K (He.ga K "Growing") "lots_entered" (He.ma K (He.ga K "Growing") "lots_entered")
  m_parts_apart : Meth K (He.ga K "Growing") "parts_apart" (He.ma K (He.ga K "Growing") "parts_apart")
  m_lacking : Meth K (He.ga K "Growing") "lacking" (He.ma K (He.ga K "Growing") "lacking")
  m_has_heard : Meth K (He.ga K "Growing") "has_heard" (He.ma K (He.ga K "Growing") "has_heard")
  m_is_safe : Meth K (He.ga K "Growing") "is_safe" (He.ma K (He.ga K "Growing") "is_safe")
  m_take : Meth K (He.ga K "Growing") "take" (He.ma K (He.ga K "Growing") "take")
  m_grow : Meth K (He.ga K "Growing") "grow" (He.ma K (He.ga K "Growing") "grow")
  m_grown : Meth K (He.ga K "Growing") "grown" (He.ma K (He.ga K "Growing") "grown")
  k_Net : Mk K (He.ga K "Net") (He.ma K (He.ga K "Net") "__init__")
  k_Growing : Mk K (He.ga K "Growing") (He.ma K (He.ga K "Growing") "__init__")
  x_Barred : PySem.W.exmOne K (.ref (He.ga K "Barred")) (.ref (He.ga K "Barred")) = some true
  x_TreeError : PySem.W.exmOne K (.ref (He.ga K "Barred")) (.ref (He.ga K "TreeError")) = some true
  x_NoNumber : PySem.W.exmOne K (.ref (He.ga K "Barred")) (.ref (He.ga K "NoNumber")) = some false
  d_PIsInteger : ∃ fd, FunD K "is_integer" "is_integer" (defArgs sPIsInteger) (defBody sPIsInteger) (defScope sPIsInteger) [] [] (He.ga K "is_integer") fd
  d_PIsWithin : ∃ fd, FunD K "is_within" "is_within" (defArgs sPIsWithin) (defBody sPIsWithin) (defScope sPIsWithin) [] [] (He.ga K "is_within") fd
  d_PIsPair : ∃ fd, FunD K "is_pair" "is_pair" (defArgs sPIsPair) (defBody sPIsPair) (defScope sPIsPair) [] [] (He.ga K "is_pair") fd
  d_PIsLot : ∃ fd, FunD K "is_lot" "is_lot" (defArgs sPIsLot) (defBody sPIsLot) (defScope sPIsLot) [] [] (He.ga K "is_lot") fd
  d_CBadNetInit : ∃ fd, FunD K "__init__" "BadNet.__init__" (defArgs sCBadNetInit) (defBody sCBadNetInit) (defScope sCBadNetInit) [] [] (He.ma K (He.ga K "BadNet") "__init__") fd
  d_CBarredInit : ∃ fd, FunD K "__init__" "Barred.__init__" (defArgs sCBarredInit) (defBody sCBarredInit) (defScope sCBarredInit) [] [] (He.ma K (He.ga K "Barred") "__init__") fd
  d_CNetInit : ∃ fd, FunD K "__init__" "Net.__init__" (defArgs sCNetInit) (defBody sCNetInit) (defScope sCNetInit) [] [] (He.ma K (He.ga K "Net") "__init__") fd
  d_CNetEq : ∃ fd, FunD K "__eq__" "Net.__eq__" (defArgs sCNetEq) (defBody sCNetEq) (defScope sCNetEq) [] [] (He.ma K (He.ga K "Net") "__eq__") fd
  d_PIsLink : ∃ fd, FunD K "is_link" "is_link" (defArgs sPIsLink) (defBody sPIsLink) (defScope sPIsLink) [] [] (He.ga K "is_link") fd
  d_PCheckNet : ∃ fd, FunD K "check_net" "check_net" (defArgs sPCheckNet) (defBody sPCheckNet) (defScope sPCheckNet) [] [] (He.ga K "check_net") fd
  d_PIsLotOf : ∃ fd, FunD K "is_lot_of" "is_lot_of" (defArgs sPIsLotOf) (defBody sPIsLotOf) (defScope sPIsLotOf) [] [] (He.ga K "is_lot_of") fd
  d_PAllLots : ∃ fd, FunD K "all_lots" "all_lots" (defArgs sPAllLots) (defBody sPAllLots) (defScope sPAllLots) [] [] (He.ga K "all_lots") fd
  d_PAllSides : ∃ fd, FunD K "all_sides" "all_sides" (defArgs sPAllSides) (defBody sPAllSides) (defScope sPAllSides) [] [] (He.ga K "all_sides") fd
  d_PDoesEnter : ∃ fd, FunD K "does_enter" "does_enter" (defArgs sPDoesEnter) (defBody sPDoesEnter) (defScope sPDoesEnter) [] [] (He.ga K "does_enter") fd
  d_PEnteringOf : ∃ fd, FunD K "entering_of" "entering_of" (defArgs sPEnteringOf) (defBody sPEnteringOf) (defScope sPEnteringOf) [] [] (He.ga K "entering_of") fd
  d_PEveryLink : ∃ fd, FunD K "every_link" "every_link" (defArgs sPEveryLink) (defBody sPEveryLink) (defScope sPEveryLink) [] [] (He.ga K "every_link") fd
  d_PCheckNumber : ∃ fd, FunD K "check_number" "check_number" (defArgs sPCheckNumber) (defBody sPCheckNumber) (defScope sPCheckNumber) [] [] (He.ga K "check_number") fd
  d_PMaskOf : ∃ fd, FunD K "mask_of" "mask_of" (defArgs sPMaskOf) (defBody sPMaskOf) (defScope sPMaskOf) [] [] (He.ga K "mask_of") fd
  d_CGrowingInit : ∃ fd, FunD K "__init__" "Growing.__init__" (defArgs sCGrowingInit) (defBody sCGrowingInit) (defScope sCGrowingInit) [] [] (He.ma K (He.ga K "Growing") "__init__") fd
  d_CGrowingLotsEntered : ∃ fd, FunD K "lots_entered" "Growing.lots_entered" (defArgs sCGrowingLotsEntered) (defBody sCGrowingLotsEntered) (defScope sCGrowingLotsEntered) [] [] (He.ma K (He.ga K "Growing") "lots_entered") fd
  d_CGrowingPartsApart : ∃ fd, FunD K "parts_apart" "Growing.parts_apart" (defArgs sCGrowingPartsApart) (defBody sCGrowingPartsApart) (defScope sCGrowingPartsApart) [] [] (He.ma K (He.ga K "Growing") "parts_apart") fd
  d_CGrowingLacking : ∃ fd, FunD K "lacking" "Growing.lacking" (defArgs sCGrowingLacking) (defBody sCGrowingLacking) (defScope sCGrowingLacking) [] [] (He.ma K (He.ga K "Growing") "lacking") fd
  d_CGrowingHasHeard : ∃ fd, FunD K "has_heard" "Growing.has_heard" (defArgs sCGrowingHasHeard) (defBody sCGrowingHasHeard) (defScope sCGrowingHasHeard) [] [] (He.ma K (He.ga K "Growing") "has_heard") fd
  d_CGrowingIsSafe : ∃ fd, FunD K "is_safe" "Growing.is_safe" (defArgs sCGrowingIsSafe) (defBody sCGrowingIsSafe) (defScope sCGrowingIsSafe) [] [] (He.ma K (He.ga K "Growing") "is_safe") fd
  d_CGrowingTake : ∃ fd, FunD K "take" "Growing.take" (defArgs sCGrowingTake) (defBody sCGrowingTake) (defScope sCGrowingTake) [] [] (He.ma K (He.ga K "Growing") "take") fd
  d_CGrowingGrow : ∃ fd, FunD K "grow" "Growing.grow" (defArgs sCGrowingGrow) (defBody sCGrowingGrow) (defScope sCGrowingGrow) [] [] (He.ma K (He.ga K "Growing") "grow") fd
  d_CGrowingGrown : ∃ fd, FunD K "grown" "Growing.grown" (defArgs sCGrowingGrown) (defBody sCGrowingGrown) (defScope sCGrowingGrown) [] [] (He.ma K (He.ga K "Growing") "grown") fd
  d_PGrowing : ∃ fd, FunD K "growing" "growing" (defArgs sPGrowing) (defBody sPGrowing) (defScope sPGrowing) [] [] (He.ga K "growing") fd
  d_PReached : ∃ fd, FunD K "reached" "reached" (defArgs sPReached) (defBody sPReached) (defScope sPReached) [] [] (He.ga K "reached") fd
  d_PIsWood : ∃ fd, FunD K "is_wood" "is_wood" (defArgs sPIsWood) (defBody sPIsWood) (defScope sPIsWood) [] [] (He.ga K "is_wood") fd
  d_PIsGrown : ∃ fd, FunD K "is_grown" "is_grown" (defArgs sPIsGrown) (defBody sPIsGrown) (defScope sPIsGrown) [] [] (He.ga K "is_grown") fd
  d_PIsTree : ∃ fd, FunD K "is_tree" "is_tree" (defArgs sPIsTree) (defBody sPIsTree) (defScope sPIsTree) [] [] (He.ga K "is_tree") fd
  d_PCheckWidths : ∃ fd, FunD K "check_widths" "check_widths" (defArgs sPCheckWidths) (defBody sPCheckWidths) (defScope sPCheckWidths) [] [] (He.ga K "check_widths") fd
  d_PWidthInto : ∃ fd, FunD K "width_into" "width_into" (defArgs sPWidthInto) (defBody sPWidthInto) (defScope sPWidthInto) [] [] (He.ga K "width_into") fd
  d_PRate : ∃ fd, FunD K "rate" "rate" (defArgs sPRate) (defBody sPRate) (defScope sPRate) [] [] (He.ga K "rate") fd
  d_PLoads : ∃ fd, FunD K "loads" "loads" (defArgs sPLoads) (defBody sPLoads) (defScope sPLoads) [] [] (He.ga K "loads") fd
  d_PIsLoad : ∃ fd, FunD K "is_load" "is_load" (defArgs sPIsLoad) (defBody sPIsLoad) (defScope sPIsLoad) [] [] (He.ga K "is_load") fd
  d_PAreLoads : ∃ fd, FunD K "are_loads" "are_loads" (defArgs sPAreLoads) (defBody sPAreLoads) (defScope sPAreLoads) [] [] (He.ga K "are_loads") fd
  d_LMixed : ∃ fd, FunD K "_law_mixed" "_law_mixed" (defArgs sLMixed) (defBody sLMixed) (defScope sLMixed) [] [] (He.ga K "_law_mixed") fd
  d_LHand : ∃ fd, FunD K "_law_hand" "_law_hand" (defArgs sLHand) (defBody sLHand) (defScope sLHand) [] [] (He.ga K "_law_hand") fd
  d_LDraw : ∃ fd, FunD K "_law_draw" "_law_draw" (defArgs sLDraw) (defBody sLDraw) (defScope sLDraw) [] [] (He.ga K "_law_draw") fd
  d_LIs : ∃ fd, FunD K "_law_is" "_law_is" (defArgs sLIs) (defBody sLIs) (defScope sLIs) [] [] (He.ga K "_law_is") fd
  d_LIsInt : ∃ fd, FunD K "_law_is_int" "_law_is_int" (defArgs sLIsInt) (defBody sLIsInt) (defScope sLIsInt) [] [] (He.ga K "_law_is_int") fd
  d_LIsLot : ∃ fd, FunD K "_law_is_lot" "_law_is_lot" (defArgs sLIsLot) (defBody sLIsLot) (defScope sLIsLot) [] [] (He.ga K "_law_is_lot") fd
  d_LShuffled : ∃ fd, FunD K "_law_shuffled" "_law_shuffled" (defArgs sLShuffled) (defBody sLShuffled) (defScope sLShuffled) [] [] (He.ga K "_law_shuffled") fd
  d_LSomeTree : ∃ fd, FunD K "_law_some_tree" "_law_some_tree" (defArgs sLSomeTree) (defBody sLSomeTree) (defScope sLSomeTree) [] [] (He.ga K "_law_some_tree") fd
  d_LSomeLinks : ∃ fd, FunD K "_law_some_links" "_law_some_links" (defArgs sLSomeLinks) (defBody sLSomeLinks) (defScope sLSomeLinks) [] [] (He.ga K "_law_some_links") fd
  d_LPartsOf : ∃ fd, FunD K "_law_parts_of" "_law_parts_of" (defArgs sLPartsOf) (defBody sLPartsOf) (defScope sLPartsOf) [] [] (He.ga K "_law_parts_of") fd
  d_LLots : ∃ fd, FunD K "_law_lots" "_law_lots" (defArgs sLLots) (defBody sLLots) (defScope sLLots) [] [] (He.ga K "_law_lots") fd
  d_LSides : ∃ fd, FunD K "_law_sides" "_law_sides" (defArgs sLSides) (defBody sLSides) (defScope sLSides) [] [] (He.ga K "_law_sides") fd
  d_LEntering : ∃ fd, FunD K "_law_entering" "_law_entering" (defArgs sLEntering) (defBody sLEntering) (defScope sLEntering) [] [] (He.ga K "_law_entering") fd
  d_LIsWood : ∃ fd, FunD K "_law_is_wood" "_law_is_wood" (defArgs sLIsWood) (defBody sLIsWood) (defScope sLIsWood) [] [] (He.ga K "_law_is_wood") fd
  d_LBarred : ∃ fd, FunD K "_law_barred" "_law_barred" (defArgs sLBarred) (defBody sLBarred) (defScope sLBarred) [] [] (He.ga K "_law_barred") fd
  d_LWidthInto : ∃ fd, FunD K "_law_width_into" "_law_width_into" (defArgs sLWidthInto) (defBody sLWidthInto) (defScope sLWidthInto) [] [] (He.ga K "_law_width_into") fd
  d_LAreLoads : ∃ fd, FunD K "_law_are_loads" "_law_are_loads" (defArgs sLAreLoads) (defBody sLAreLoads) (defScope sLAreLoads) [] [] (He.ga K "_law_are_loads") fd
  d_LSomeWidths : ∃ fd, FunD K "_law_some_widths" "_law_some_widths" (defArgs sLSomeWidths) (defBody sLSomeWidths) (defScope sLSomeWidths) [] [] (He.ga K "_law_some_widths") fd
  d_LIsAnswered : ∃ fd, FunD K "_law_is_answered" "_law_is_answered" (defArgs sLIsAnswered) (defBody sLIsAnswered) (defScope sLIsAnswered) [] [] (He.ga K "_law_is_answered") fd
  d_Law : ∃ fd, FunD K "law" "law" (defArgs sLaw) (defBody sLaw) (defScope sLaw) [] [] (He.ga K "law") fd
  ex : ExFacts K mg
theorem Txt.of {w : World} {K : PySem.W.Frag} {h : Heap} {mg : Str → Option Value} (X : K.In h) (G : h.Ns mainGlobals mg) (c : He.SaysX faAll fnAll [] tabDefs exAll w h K) : Txt K mg where
  f_isinstance := He.free_ok X G (c.t.d.fact 0)
  f_int := He.free_ok X G (c.t.d.fact 1)
  f_bool := He.free_ok X G (c.t.d.fact 2)
  f_tuple := He.free_ok X G (c.t.d.fact 3)
  f_len := He.free_ok X G (c.t.d.fact 4)
  f_range := He.free_ok X G (c.t.d.fact 5)
  f_list := He.free_ok X G (c.t.d.fact 6)
  f_sum := He.free_ok X G (c.t.d.fact 7)
  f_all := He.free_ok X G (c.t.d.fact 8)
  f_any := He.free_ok X G (c.t.d.fact 9)
  f_min := He.free_ok X G (c.t.d.fact 10)
  f_max := He.free_ok X G (c.t.d.fact 11)
  f_sorted := He.free_ok X G (c.t.d.fact 12)
  f_set := He.free_ok X G (c.t.d.fact 13)
  f_dict := He.free_ok X G (c.t.d.fact 14)
  f_enumerate := He.free_ok X G (c.t.d.fact 15)
  f_zip := He.free_ok X G (c.t.d.fact 16)
  f_abs := He.free_ok X G (c.t.d.fact 17)
  f_repr := He.free_ok X G (c.t.d.fact 18)
  g_is_integer := He.glo_ok X G (c.t.d.fact 19)
  g_is_within := He.glo_ok X G (c.t.d.fact 20)
  g_is_pair := He.glo_ok X G (c.t.d.fact 21)
  g_is_lot := He.glo_ok X G (c.t.d.fact 22)
  g_is_link := He.glo_ok X G (c.t.d.fact 23)
  g_check_net := He.glo_ok X G (c.t.d.fact 24)
  g_is_lot_of := He.glo_ok X G (c.t.d.fact 25)
  g_all_lots := He.glo_ok X G (c.t.d.fact 26)
  g_all_sides := He.glo_ok X G (c.t.d.fact 27)
  g_does_enter := He.glo_ok X G (c.t.d.fact 28)
  g_entering_of := He.glo_ok X G (c.t.d.fact 29)
  g_every_link := He.glo_ok X G (c.t.d.fact 30)
  g_check_number := He.glo_ok X G (c.t.d.fact 31)
  g_mask_of := He.glo_ok X G (c.t.d.fact 32)
  g_growing := He.glo_ok X G (c.t.d.fact 33)
  g_reached := He.glo_ok X G (c.t.d.fact 34)
  g_is_wood := He.glo_ok X G (c.t.d.fact 35)
  g_is_grown := He.glo_ok X G (c.t.d.fact 36)
  g_is_tree := He.glo_ok X G (c.t.d.fact 37)
  g_check_widths := He.glo_ok X G (c.t.d.fact 38)
  g_width_into := He.glo_ok X G (c.t.d.fact 39)
  g_rate := He.glo_ok X G (c.t.d.fact 40)
  g_loads := He.glo_ok X G (c.t.d.fact 41)
  g_is_load := He.glo_ok X G (c.t.d.fact 42)
  g_are_loads := He.glo_ok X G (c.t.d.fact 43)
  g__law_mixed := He.glo_ok X G (c.t.d.fact 44)
  g__law_hand := He.glo_ok X G (c.t.d.fact 45)
  g__law_draw := He.glo_ok X G (c.t.d.fact 46)
  g__law_is := He.glo_ok X G (c.t.d.fact 47)
  g__law_is_int := He.glo_ok X G (c.t.d.fact 48)
  g__law_is_lot := He.glo_ok X G (c.t.d.fact 49)
  g__law_shuffled := He.glo_ok X G (c.t.d.fact 50)
  g__law_some_tree := He.glo_ok X G (c.t.d.fact 51)
  g__law_some_links := He.glo_ok X G (c.t.d.fact 52)
  g__law_parts_of := He.glo_ok X G (c.t.d.fact 53)
  g__law_lots := He.glo_ok X G (c.t.d.fact 54)
  g__law_sides := He.glo_ok X G (c.t.d.fact 55)
  g__law_entering := He.glo_ok X G (c.t.d.fact 56)
  g__law_is_wood := He.glo_ok X G (c.t.d.fact 57)
  g__law_barred := He.glo_ok X G (c.t.d.fact 58)
  g__law_width_into := He.glo_ok X G (c.t.d.fact 59)
  g__law_are_loads := He.glo_ok X G (c.t.d.fact 60)
  g__law_some_widths := He.glo_ok X G (c.t.d.fact 61)
  g__law_is_answered := He.glo_ok X G (c.t.d.fact 62)
  g_law := He.glo_ok X G (c.t.d.fact 63)
  g_TreeError := He.glo_ok X G (c.t.d.fact 64)
  g_BadNet := He.glo_ok X G (c.t.d.fact 65)
  g_NoNet := He.glo_ok X G (c.t.d.fact 66)
  g_NoNumber := He.glo_ok X G (c.t.d.fact 67)
  g_Barred := He.glo_ok X G (c.t.d.fact 68)
  g_NoWidths := He.glo_ok X G (c.t.d.fact 69)
  g_Net := He.glo_ok X G (c.t.d.fact 70)
  g_Growing := He.glo_ok X G (c.t.d.fact 71)
  i_LEAST_PLACES := He.int_ok X G (c.t.d.fact 72)
  i_MOST_PLACES := He.int_ok X G (c.t.d.fact 73)
  i_MOST_LINKS := He.int_ok X G (c.t.d.fact 74)
  i_MOST_WIDTH := He.int_ok X G (c.t.d.fact 75)
  i_MOST_RATE := He.int_ok X G (c.t.d.fact 76)
  c_Net := He.cls_ok (c.t.d.fact 77)
  c_Growing := He.cls_ok (c.t.d.fact 78)
  n_many := He.noat_ok (c.t.d.fact 79)
  n_root := He.noat_ok (c.t.d.fact 80)
  n_links := He.noat_ok (c.t.d.fact 81)
  n_kept_many := He.noat_ok (c.t.d.fact 82)
  n_kept_ends := He.noat_ok (c.t.d.fact 83)
  n_kept_uses := He.noat_ok (c.t.d.fact 84)
  n_kept_heard := He.noat_ok (c.t.d.fact 85)
  n_kept_parts := He.noat_ok (c.t.d.fact 86)
  n_kept_lots := He.noat_ok (c.t.d.fact 87)
  n_kept_masks := He.noat_ok (c.t.d.fact 88)
  n_kept_into := He.noat_ok (c.t.d.fact 89)
  n_kept_entered := He.noat_ok (c.t.d.fact 90)
  n_kept_needed := He.noat_ok (c.t.d.fact 91)
  m_lots_entered := He.meth_ok (c.t.d.fact 92)
  m_parts_apart := He.meth_ok (c.t.d.fact 93)
  m_lacking := He.meth_ok (c.t.d.fact 94)
  m_has_heard := He.meth_ok (c.t.d.fact 95)
  m_is_safe := He.meth_ok (c.t.d.fact 96)
  m_take := He.meth_ok (c.t.d.fact 97)
  m_grow := He.meth_ok (c.t.d.fact 98)
  m_grown := He.meth_ok (c.t.d.fact 99)
  k_Net := He.mkr_ok (c.t.d.fact 100)
  k_Growing := He.mkr_ok (c.t.d.fact 101)
  x_Barred := He.exm_ok (c.t.d.fact 102)
  x_TreeError := He.exm_ok (c.t.d.fact 103)
  x_NoNumber := He.exm_ok (c.t.d.fact 104)
  d_PIsInteger := c.t.d.def_ 0 (d := dPIsInteger) rfl
  d_PIsWithin := c.t.d.def_ 1 (d := dPIsWithin) rfl
  d_PIsPair := c.t.d.def_ 2 (d := dPIsPair) rfl
  d_PIsLot := c.t.d.def_ 3 (d := dPIsLot) rfl
  d_CBadNetInit := c.t.d.def_ 4 (d := dCBadNetInit) rfl
  d_CBarredInit := c.t.d.def_ 5 (d := dCBarredInit) rfl
  d_CNetInit := c.t.d.def_ 6 (d := dCNetInit) rfl
  d_CNetEq := c.t.d.def_ 7 (d := dCNetEq) rfl
  d_PIsLink := c.t.d.def_ 8 (d := dPIsLink) rfl
  d_PCheckNet := c.t.d.def_ 9 (d := dPCheckNet) rfl
  d_PIsLotOf := c.t.d.def_ 10 (d := dPIsLotOf) rfl
  d_PAllLots := c.t.d.def_ 11 (d := dPAllLots) rfl
  d_PAllSides := c.t.d.def_ 12 (d := dPAllSides) rfl
  d_PDoesEnter := c.t.d.def_ 13 (d := dPDoesEnter) rfl
  d_PEnteringOf := c.t.d.def_ 14 (d := dPEnteringOf) rfl
  d_PEveryLink := c.t.d.def_ 15 (d := dPEveryLink) rfl
  d_PCheckNumber := c.t.d.def_ 16 (d := dPCheckNumber) rfl
  d_PMaskOf := c.t.d.def_ 17 (d := dPMaskOf) rfl
  d_CGrowingInit := c.t.d.def_ 18 (d := dCGrowingInit) rfl
  d_CGrowingLotsEntered := c.t.d.def_ 19 (d := dCGrowingLotsEntered) rfl
  d_CGrowingPartsApart := c.t.d.def_ 20 (d := dCGrowingPartsApart) rfl
  d_CGrowingLacking := c.t.d.def_ 21 (d := dCGrowingLacking) rfl
  d_CGrowingHasHeard := c.t.d.def_ 22 (d := dCGrowingHasHeard) rfl
  d_CGrowingIsSafe := c.t.d.def_ 23 (d := dCGrowingIsSafe) rfl
  d_CGrowingTake := c.t.d.def_ 24 (d := dCGrowingTake) rfl
  d_CGrowingGrow := c.t.d.def_ 25 (d := dCGrowingGrow) rfl
  d_CGrowingGrown := c.t.d.def_ 26 (d := dCGrowingGrown) rfl
  d_PGrowing := c.t.d.def_ 27 (d := dPGrowing) rfl
  d_PReached := c.t.d.def_ 28 (d := dPReached) rfl
  d_PIsWood := c.t.d.def_ 29 (d := dPIsWood) rfl
  d_PIsGrown := c.t.d.def_ 30 (d := dPIsGrown) rfl
  d_PIsTree := c.t.d.def_ 31 (d := dPIsTree) rfl
  d_PCheckWidths := c.t.d.def_ 32 (d := dPCheckWidths) rfl
  d_PWidthInto := c.t.d.def_ 33 (d := dPWidthInto) rfl
  d_PRate := c.t.d.def_ 34 (d := dPRate) rfl
  d_PLoads := c.t.d.def_ 35 (d := dPLoads) rfl
  d_PIsLoad := c.t.d.def_ 36 (d := dPIsLoad) rfl
  d_PAreLoads := c.t.d.def_ 37 (d := dPAreLoads) rfl
  d_LMixed := c.t.d.def_ 38 (d := dLMixed) rfl
  d_LHand := c.t.d.def_ 39 (d := dLHand) rfl
  d_LDraw := c.t.d.def_ 40 (d := dLDraw) rfl
  d_LIs := c.t.d.def_ 41 (d := dLIs) rfl
  d_LIsInt := c.t.d.def_ 42 (d := dLIsInt) rfl
  d_LIsLot := c.t.d.def_ 43 (d := dLIsLot) rfl
  d_LShuffled := c.t.d.def_ 44 (d := dLShuffled) rfl
  d_LSomeTree := c.t.d.def_ 45 (d := dLSomeTree) rfl
  d_LSomeLinks := c.t.d.def_ 46 (d := dLSomeLinks) rfl
  d_LPartsOf := c.t.d.def_ 47 (d := dLPartsOf) rfl
  d_LLots := c.t.d.def_ 48 (d := dLLots) rfl
  d_LSides := c.t.d.def_ 49 (d := dLSides) rfl
  d_LEntering := c.t.d.def_ 50 (d := dLEntering) rfl
  d_LIsWood := c.t.d.def_ 51 (d := dLIsWood) rfl
  d_LBarred := c.t.d.def_ 52 (d := dLBarred) rfl
  d_LWidthInto := c.t.d.def_ 53 (d := dLWidthInto) rfl
  d_LAreLoads := c.t.d.def_ 54 (d := dLAreLoads) rfl
  d_LSomeWidths := c.t.d.def_ 55 (d := dLSomeWidths) rfl
  d_LIsAnswered := c.t.d.def_ 56 (d := dLIsAnswered) rfl
  d_Law := c.t.d.def_ 57 (d := dLaw) rfl
  ex := exAll_ok X G c.more
end Spt

set_option Elab.async false
set_option linter.all false
set_option maxRecDepth 100000
set_option maxHeartbeats 0

namespace Spt
open PySem PySem.Spec PyProof.Rows L2
def loose0 : List PySem.Str := ["is_integer", "is_within", "is_pair", "is_lot", "TreeError", "BadNet", "NoNet", "NoNumber", "Barred", "NoWidths", "LEAST_PLACES", "MOST_PLACES", "MOST_LINKS", "Net", "is_link", "check_net", "is_lot_of", "all_lots", "all_sides", "does_enter"]
def loose1 : List PySem.Str := ["entering_of", "every_link", "check_number", "mask_of", "Growing", "growing", "reached", "is_wood", "is_grown", "is_tree", "MOST_WIDTH", "MOST_RATE", "check_widths", "width_into", "rate", "loads", "is_load", "are_loads", "_law_mixed", "_law_hand"]
def loose2 : List PySem.Str := ["_law_draw", "_law_is", "_law_is_int", "_law_is_lot", "_law_shuffled", "_law_some_tree", "_law_some_links", "_law_parts_of", "_law_lots", "_law_sides", "_law_entering", "_law_is_wood", "_law_barred", "_law_width_into", "_law_are_loads", "_law_some_widths", "_law_is_answered"]
/-- the facts, and: the two makers of lambdas have tables of their own -/
def exT (K : PySem.W.Frag) : Bool := exAll K && !decide ((He.cT K ("_law_is_answered", none)).2 = (He.cT K ("law", none)).2)
abbrev R : PySem.W.OpenRow := PySem.W.OpenLaw.row PySem.Challenge.rw_sparetrees_k22_whole_rates_and_loads
abbrev hk : PySem.W.Hook := He.hookX 6 faAll fnAll [] tabDefs exT
def ob (s : PySem.W.SharedT) : He.AlX := He.obsX 6 faAll fnAll [] tabDefs exT (HandSHeadRun.getT s)
theorem ob_eq (s : PySem.W.SharedT) : ob s = hk.obs s.abs := He.obsX_eq (HandSHeadRun.getT_eq s)
theorem run (w : World) : HandSHeadRun.RunEqI R (PySem.W.view R.prog [0, 65]) hk ob 20000 (loose0 ++ loose1 ++ loose2) w := by
  unfold HandSHeadRun.RunEqI
  kernel_rfl
end Spt

set_option Elab.async false
set_option linter.all false
set_option maxRecDepth 100000
set_option maxHeartbeats 4000000
/-! short rules: a def's promise by its address, its call -/
namespace Spt
open PySem PySem.Spec PyProof.Rows L2
/-- the def at f keeps sp -/
def FnK (P : Program) (w : World) (K : PySem.W.Frag) (mg : Str → Option Value) (base : Heap) (CX : CXT) (k : Nat) (f : Addr) (ps : List Str) (sp : Sp) : Prop :=
  ∃ fd, FnOk P w K mg base CX k f fd ps sp ∧ Binds K fd ps [] ∧ PySem.W.keepIn K (.ref f) = true
/-- its arguments bind plainly -/
def PlainB (x qual : Str) (st : Stmt) (ps : List Str) : Prop :=
  ∀ (kV doc pm : Value) (an : Option Addr) (cdv ct : Value) (us : List Value), us.length = ps.length → bindArgs (PySem.W.fnOf x qual (defArgs st) (defBody st) (defScope st) .none kV doc pm an cdv ct) ⟨us, []⟩ = pure (ps.zip us)
section
variable {P : Program} {w : World} {K : PySem.W.Frag} {mg : Str → Option Value} {base : Heap}
/-- a def that raises nothing -/
theorem FnK.of {x qual : Str} {st : Stmt} {N ps : List Str} {k : Nat} {sp : Sp} {f : Addr} (d : ∃ fd, FunD K x qual (defArgs st) (defBody st) (defScope st) [] [] f fd) (S : FnScope N ps (defScope st)) (hb : PlainB x qual st ps) (len : ∀ vs H Q E, sp vs H Q E → vs.length = ps.length)
    (hbody : ∀ (cdv : Value) (A : Around) (outer : List Env) (s : Shared) (H : Hp) (vs : List V) (Q : VK) (E : XK), Room k (A.deeper (envOfC qual (defScope st) s.heap.objs.size f cdv)) → sp vs H Q E →
      ∃ t, PSs (cxOf CX0 P w K mg base N qual (defScope st) f cdv A outer s H E).nox (defBody st) t ∧ t { nx := fun _ H' => Q .non H', rt := Q } (start N vs) H) : FnK P w K mg base CX0 (k + 1) f ps sp := by
  obtain ⟨fd, F⟩ := d
  refine ⟨fd, F.ok S len fun cdv A outer s H vs Q E hr hsp => ?_, FunD.bindsN F hb, F.kp⟩
  obtain ⟨t, h, q⟩ := hbody cdv A outer s H vs Q E hr hsp
  exact ⟨t, h.nox, q⟩
/-- a def that may raise -/
theorem FnK.ofX {x qual : Str} {st : Stmt} {N ps : List Str} {k : Nat} {sp : Sp} {f : Addr} (d : ∃ fd, FunD K x qual (defArgs st) (defBody st) (defScope st) [] [] f fd) (S : FnScope N ps (defScope st)) (hb : PlainB x qual st ps) (len : ∀ vs H Q E, sp vs H Q E → vs.length = ps.length)
    (hbody : ∀ (cdv : Value) (A : Around) (outer : List Env) (s : Shared) (H : Hp) (vs : List V) (Q : VK) (E : XK), Room k (A.deeper (envOfC qual (defScope st) s.heap.objs.size f cdv)) → sp vs H Q E →
      ∃ t, PSs (cxOf (L2.CX P w) P w K mg base N qual (defScope st) f cdv A outer s H E) (defBody st) t ∧ t { nx := fun _ H' => Q .non H', rt := Q } (start N vs) H) : FnK P w K mg base (L2.CX P w) (k + 1) f ps sp := by
  obtain ⟨fd, F⟩ := d
  exact ⟨fd, F.ok S len hbody, FunD.bindsN F hb, F.kp⟩
theorem FnK.mono {CX : CXT} {j k : Nat} {f : Addr} {ps : List Str} {sp : Sp} (F : FnK P w K mg base CX j f ps sp) (h : j ≤ k) : FnK P w K mg base CX k f ps sp := by
  obtain ⟨fd, F, b, kp⟩ := F
  exact ⟨fd, F.mono h, b, kp⟩
end
section
variable {X : Cx} {k : Nat} {f C : Addr} {ps : List Str} {sp : Sp} {x m : Str} {p pos apos : Pos} {e o : Expr} {es : List Expr} {ta : TE} {t : TA}
/-- f(..) -/
theorem cl (F : FnK X.prog X.w X.K X.mg X.base CX0 k f ps sp) (hr : Room k X.A) (hm : X.mg x = some (.ref f)) (ha : PA X (e :: es) t) (hg : Gl X x := by rfl) (hdb : (x == ("__debug__" : Str)) = false := by decide)
    (he : starEach (e :: es) X.env = (false, eval e X.env) :: starEach es X.env := by rfl) (hpl : (backTo pos (starEach es X.env)).any (·.1) = false := by rfl) : PE X (.Call (.Name x p) (e :: es) [] pos) (tCall sp [] E0 t) := by
  obtain ⟨fd, F, b, kp⟩ := F
  exact pe_call F hr hg hm kp b .nil pass0 ha hdb he hpl
/-- o.m(..), o.m() -/
theorem clm {pl : Sem Bool} (F : FnK X.prog X.w X.K X.mg X.base CX0 k f ps sp) (hr : Room k X.A) (c : Cls X.K C) (hm : Meth X.K C m f) (ho : PE X o ta) (ha : PA X (e :: es) t)
    (hst : starEach (e :: es) X.env = (false, eval e X.env) :: starEach es X.env := by rfl) (hpl : (backTo pos (starEach es X.env)).any (·.1) = false := by rfl)
    (ht : eval (.Call (.Attribute o m apos) (e :: es) [] pos) X.env = (do
      let ov ← eval o X.env
      standAt apos.atName
      let (f, first) ← holding [ov] (getMethod ov m pl)
      callWith pos f first (backTo pos (starEach (e :: es) X.env)) (backToKw pos (keywordEach [] X.env))) := by rfl) : PE X (.Call (.Attribute o m apos) (e :: es) [] pos) (tMeth C m sp [] E0 ta t) := by
  obtain ⟨fd, F, b, kp⟩ := F
  exact pe_meth ho c hm F hr b .nil pass0 ha hst hpl ht
theorem clm0 {pl : Sem Bool} (F : FnK X.prog X.w X.K X.mg X.base CX0 k f ps sp) (hr : Room k X.A) (c : Cls X.K C) (hm : Meth X.K C m f) (ho : PE X o ta)
    (ht : eval (.Call (.Attribute o m apos) [] [] pos) X.env = (do
      let ov ← eval o X.env
      standAt apos.atName
      let (f, first) ← holding [ov] (getMethod ov m pl)
      callWith pos f first [] (backToKw pos (keywordEach [] X.env))) := by rfl) : PE X (.Call (.Attribute o m apos) [] [] pos) (tMeth C m sp [] E0 ta tNil) := by
  obtain ⟨fd, F, b, kp⟩ := F
  exact pe_meth0 ho c hm F hr b .nil pass0 ht
end
end Spt

set_option Elab.async false
set_option linter.all false
set_option maxRecDepth 100000
set_option maxHeartbeats 4000000
/-! checks.py: is_integer .. is_lot -/
namespace Spt
open PySem PySem.Spec PyProof.Rows L2
section
variable {X : Cx} {e o : Expr} {es : List Expr} {te : TE} {t : TA} {x : Str} {p p1 pos : Pos}
/-- isinstance(x, T), T a built-in type -/
def rIsTy (K : PySem.W.Frag) : List V → Hp → VK → Prop := fun xs H Q => ∃ (x : V) (t n : String) (b : Bool), xs = [x, .ty n] ∧ TyX K H x (.type t) ∧ kitB t n = some b ∧ Q (.bl b) H
theorem call_isTy : CallR X (.builtin "isinstance") (rIsTy X.K) := by
  intro pins s σ H xs us Q I r h
  obtain ⟨x, t, n, b, rfl, ty, e, q⟩ := h
  exact call_isi pins s σ H _ us Q I r ⟨x, .ty n, .type t, .type n, b, rfl, .ty n, ty, kit_ty e, q⟩
/-- isinstance(x, C), x an instance of the class at C -/
def rIsOwn (K : PySem.W.Frag) : List V → Hp → VK → Prop := fun xs H Q => ∃ (a C dx : Addr) (fs : List (Str × V)), xs = [.ref a, .ref C] ∧ H a = some (.ins C dx fs) ∧ Cls K C ∧ InsF K C ∧ Q (.bl true) H
theorem call_isOwn : CallR X (.builtin "isinstance") (rIsOwn X.K) := by
  intro pins s σ H xs us Q I r h
  obtain ⟨a, C, dx, fs, rfl, ea, c, f, q⟩ := h
  exact call_isi pins s σ H _ us Q I r ⟨.ref a, .ref C, .ref C, .ref C, true, rfl, .own C, .base (.ins ea c f.ha f.hn f.ht f.hm), f.me, q⟩
/-- a built-in by its name; a built-in type by its name, called, as a value -/
theorem cb {id : String} {r : List V → Hp → VK → Prop} (hc : CallR X (.builtin id) r) (hm : X.mg x = none) (ha : PA X (e :: es) t) (hg : Gl X x := by rfl) (hv : bootBuiltins x = some (.builtin id) := by decide +kernel) (hn : x ≠ "__name__" := by decide) (hdb : (x == ("__debug__" : Str)) = false := by decide)
    (he : starEach (e :: es) X.env = (false, eval e X.env) :: starEach es X.env := by rfl) (hpl : (backTo pos (starEach es X.env)).any (·.1) = false := by rfl) : PE X (.Call (.Name x p) (e :: es) [] pos) (tCB r t) := pe_callB hc hg hm hv ha hn hdb he hpl
theorem ct {T : String} {r : List V → Hp → VK → Prop} (hc : CallR X (.type T) r) (hm : X.mg x = none) (ha : PA X (e :: es) t) (hg : Gl X x := by rfl) (hv : bootBuiltins x = some (.type T) := by decide +kernel) (hn : x ≠ "__name__" := by decide) (hdb : (x == ("__debug__" : Str)) = false := by decide)
    (he : starEach (e :: es) X.env = (false, eval e X.env) :: starEach es X.env := by rfl) (hpl : (backTo pos (starEach es X.env)).any (·.1) = false := by rfl) : PE X (.Call (.Name x p) (e :: es) [] pos) (tCB r t) := pe_callTy hc hg hm hv ha hn hdb he hpl
theorem bty (n : String) (hm : X.mg x = none) (hg : Gl X x := by rfl) (hv : bootBuiltins x = some (.type n) := by decide +kernel) (hn : x ≠ "__name__" := by decide) (hd : (x == ("__debug__" : Str)) = false := by decide) : PE X (.Name x pos) (tC (.ty n)) := pe_bltn hg hm hv rfl hn hd
theorem a1 (ha : PE X e te) (hs : starEach (e :: []) X.env = (false, eval e X.env) :: starEach [] X.env := by rfl) : PA X [e] (tCons te tNil) := pa_cons ha pa_nil hs
theorem a2 {e2 : Expr} {te2 : TE} (ha : PE X e te) (hb : PE X e2 te2) (hs : starEach (e :: [e2]) X.env = (false, eval e X.env) :: starEach [e2] X.env := by rfl) (hs2 : starEach (e2 :: []) X.env = (false, eval e2 X.env) :: starEach [] X.env := by rfl) : PA X [e, e2] (tCons te (tCons te2 tNil)) := pa_cons ha (pa_cons hb pa_nil hs2) hs
theorem a3 {e2 e3 : Expr} {te2 te3 : TE} (ha : PE X e te) (hb : PE X e2 te2) (hc : PE X e3 te3) (hs : starEach (e :: [e2, e3]) X.env = (false, eval e X.env) :: starEach [e2, e3] X.env := by rfl) (hs2 : starEach (e2 :: [e3]) X.env = (false, eval e2 X.env) :: starEach [e3] X.env := by rfl)
    (hs3 : starEach (e3 :: []) X.env = (false, eval e3 X.env) :: starEach [] X.env := by rfl) : PA X [e, e2, e3] (tCons te (tCons te2 (tCons te3 tNil))) := pa_cons ha (pa_cons hb (pa_cons hc pa_nil hs3) hs2) hs
/-- a module's int -/
theorem gint {i : Int} (h : ∃ t, X.mg x = some (.int i t)) (hg : Gl X x := by rfl) (hd : (x == ("__debug__" : Str)) = false := by decide) : PE X (.Name x pos) (tC (.int i)) := by
  obtain ⟨t, h⟩ := h
  exact pe_glob hg h ⟨t, rfl⟩ hd
end
section
variable {P : Program} {w : World} {K : PySem.W.Frag} {mg : Str → Option Value} {base : Heap}
/-! is_integer -/
theorem scIsInteger : FnScope ["thing"] ["thing"] (defScope sPIsInteger) := ⟨rfl, rfl, rfl, by decide +kernel, rfl, by decide +kernel, by decide +kernel⟩
def spIsInteger : Sp := fun vs H Q _ => ∃ i : Int, vs = [.int i] ∧ Q (.bl true) H
theorem okIsInteger (T : Txt K mg) : FnK P w K mg base CX0 1 (He.ga K "is_integer") ["thing"] spIsInteger := by
  refine FnK.of T.d_PIsInteger scIsInteger (fun _ _ _ _ _ _ us hl => match us, hl with | [_], _ => rfl) (fun vs H Q E h => ?_) (fun cdv A outer s H vs Q E hr h => ?_)
  · obtain ⟨i, rfl, _⟩ := h
    rfl
  · obtain ⟨i, rfl, k⟩ := h
    refine ⟨_, pss_one (ps_ret (pe_and (cb call_isTy T.f_isinstance (a2 (pv 0) (bty "int" T.f_int))) (pe_one (pe_not (cb call_isTy T.f_isinstance (a2 (pv 0) (bty "bool" T.f_bool))))))), ?_⟩
    refine ⟨_, rfl, _, _, _, _, rfl, .base (.int _), (by decide +kernel : kitB "int" "int" = some true), true, rfl, ?_⟩
    refine ⟨_, rfl, _, _, _, _, rfl, .base (.int _), (by decide +kernel : kitB "int" "bool" = some false), false, rfl, ?_⟩
    exact k
/-! is_within -/
theorem scIsWithin : FnScope ["thing", "least", "most"] ["thing", "least", "most"] (defScope sPIsWithin) := ⟨rfl, rfl, rfl, by decide +kernel, rfl, by decide +kernel, by decide +kernel⟩
def spIsWithin : Sp := fun vs H Q _ => ∃ i a b : Int, vs = [.int i, .int a, .int b] ∧ Q (.bl (decide (a ≤ i ∧ i ≤ b))) H
theorem okIsWithin (T : Txt K mg) : FnK P w K mg base CX0 2 (He.ga K "is_within") ["thing", "least", "most"] spIsWithin := by
  refine FnK.of T.d_PIsWithin scIsWithin (fun _ _ _ _ _ _ us hl => match us, hl with | [_, _, _], _ => rfl) (fun vs H Q E h => ?_) (fun cdv A outer s H vs Q E hr h => ?_)
  · obtain ⟨i, a, b, rfl, _⟩ := h
    rfl
  · obtain ⟨i, a, b, rfl, k⟩ := h
    refine ⟨_, pss_one (ps_ret (pe_and (cl (okIsInteger T) hr T.g_is_integer (a1 (pv 0))) (pe_one (pe_chain op_le op_le (pv 1) (pv 0) (pv 2))))), ?_⟩
    refine ⟨_, rfl, i, rfl, true, rfl, ?_⟩
    refine ⟨_, rfl, _, rfl, _, _, rfl, rfl, _, rfl, ?_⟩
    by_cases h1 : a ≤ i
    · rw [decide_eq_true h1, if_pos rfl]
      refine ⟨_, rfl, _, _, rfl, rfl, ?_⟩
      have e : decide (i ≤ b) = decide (a ≤ i ∧ i ≤ b) := by simp [h1]
      show Q (V.bl (decide (i ≤ b))) H
      rw [e]
      exact k
    · rw [decide_eq_false h1, if_neg Bool.false_ne_true]
      have e : decide (a ≤ i ∧ i ≤ b) = false := by simp [h1]
      rw [e] at k
      exact k
end
end Spt

set_option Elab.async false
set_option linter.all false
set_option maxRecDepth 100000
set_option maxHeartbeats 4000000
/-! comprehensions: what they make of a list, a tuple, a range -/
namespace Spt
open PySem PySem.Spec PyProof.Rows L2
/-! ### heaps -/
/-- all but D is as it was -/
def EBut (D : Addr) (H H' : Hp) : Prop := ∀ b o, b ≠ D → H b = some o → H' b = some o
theorem EBut.of {D : Addr} {H H' : Hp} (h : Same H H') : EBut D H H' := fun b o _ e => h b o e
theorem same_new {H : Hp} {p : Addr} {o : HO} (h : H p = none) : Same H (upd H p o) := fun a u e => by
  rw [upd_ne (ne_of_none e h)]
  exact e
theorem same_mut {H H' : Hp} {p : Addr} {o : HO} (e : Same H H') (h : H p = none) : Same H (upd H' p o) := fun a u ha => by
  rw [upd_ne (ne_of_none ha h)]
  exact e a u ha
theorem same_new' {H H' : Hp} {p : Addr} {o : HO} (e : Same H H') (h : H' p = none) : Same H (upd H' p o) := e.trans (same_new h)
theorem same_tseq {K : PySem.W.Frag} {H H' : Hp} {a : Addr} {xs : List V} (e : Same H H') (h : SqT K H a xs) : SqT K H' a xs := by
  rcases h with (h | ⟨o, h⟩) | h
  · exact .inl (.inl (e _ _ h))
  · exact .inl (.inr ⟨o, e _ _ h⟩)
  · exact .inr h
theorem Paired.map_out {α β γ : Type} {F : α → γ → Prop} {g : β → γ} : ∀ {l : List α} {m : List β}, Paired (fun a b => F a (g b)) l m → Paired F l (m.map g)
  | _, _, .nil => .nil
  | _, _, .cons h t => .cons h (Paired.map_out t)
theorem Paired.eq_map {α β : Type} {g : α → β} : ∀ {l : List α} {m : List β}, Paired (fun a b => b = g a) l m → m = l.map g
  | _, _, .nil => rfl
  | _, _, .cons h t => by rw [h, Paired.eq_map t]; rfl
theorem Paired.len {α β : Type} {F : α → β → Prop} : ∀ {l : List α} {m : List β}, Paired F l m → l.length = m.length
  | _, _, .nil => rfl
  | _, _, .cons _ t => by rw [List.length_cons, List.length_cons, Paired.len t]
theorem Paired.get {α β : Type} {F : α → β → Prop} : ∀ {l : List α} {m : List β} {i : Nat} {a : α}, Paired F l m → l[i]? = some a → ∃ b, m[i]? = some b ∧ F a b
  | _, _, _, _, .nil, h => by simp at h
  | _, _, 0, _, .cons h t, e => by
    simp only [List.getElem?_cons_zero, Option.some.injEq] at e
    subst e
    exact ⟨_, by simp, h⟩
  | _, _, i + 1, _, .cons h t, e => by
    obtain ⟨b, e1, e2⟩ := Paired.get (i := i) t (by simpa using e)
    exact ⟨b, by simpa using e1, e2⟩
theorem Paired.get' {α β : Type} {F : α → β → Prop} : ∀ {l : List α} {m : List β} {i : Nat} {b : β}, Paired F l m → m[i]? = some b → ∃ a, l[i]? = some a ∧ F a b
  | _, _, _, _, .nil, h => by simp at h
  | _, _, 0, _, .cons h t, e => by
    simp only [List.getElem?_cons_zero, Option.some.injEq] at e
    subst e
    exact ⟨_, by simp, h⟩
  | _, _, i + 1, _, .cons h t, e => by
    obtain ⟨b, e1, e2⟩ := Paired.get' (i := i) t (by simpa using e)
    exact ⟨b, by simpa using e1, e2⟩
theorem Paired.imp {α β : Type} {F G : α → β → Prop} (f : ∀ a b, F a b → G a b) : ∀ {l : List α} {m : List β}, Paired F l m → Paired G l m
  | _, _, .nil => .nil
  | _, _, .cons h t => .cons (f _ _ h) (Paired.imp f t)
theorem take_snoc {α : Type} {l : List α} {i : Nat} {x : α} (h : l[i]? = some x) : l.take (i + 1) = l.take i ++ [x] := by
  rw [List.take_add_one, h]
  rfl
section
variable {α : Type} {K : PySem.W.Frag} {H : Hp} {D : Addr} {σ : L2.St} {vs : List Nat} {j : Nat} {tt : TT} {te : TE} {g : TG}
/-- what stands behind i items -/
def CInv (H : Hp) (D : Addr) (l : List α) (p : α → Bool) (R : Hp → α → V → Prop) (i : Nat) (H1 : Hp) : Prop :=
  Same H H1 ∧ ∃ ys, H1 D = some (.lst ys) ∧ Paired (R H1) ((l.take i).filter p) ys
theorem CInv.start {l : List α} {p : α → Bool} {R : Hp → α → V → Prop} (hD : H D = none) : CInv H D l p R 0 (upd H D (.lst [])) :=
  ⟨same_new hD, [], upd_same, by simpa using Paired.nil⟩
theorem CInv.len {l : List α} {p : α → Bool} {R : Hp → α → V → Prop} {i : Nat} {H1 : Hp} {ys : List V} (h : Paired (R H1) ((l.take i).filter p) ys) : ys.length ≤ l.length := by
  rw [← Paired.len h]
  exact Nat.le_trans (List.length_filter_le _ _) (by rw [List.length_take]; omega)
theorem CInv.turn {l : List α} {p : α → Bool} {R : Hp → α → V → Prop} {i : Nat} {H1 : Hp} {x : α} (hD : H D = none) (hz : l.length < sizeLine) (hR : ∀ H1 H2 x y, EBut D H1 H2 → R H1 x y → R H2 x y) (c : CInv H D l p R i H1) (hx : l[i]? = some x) {σ2 : L2.St}
    (ht : ∀ Qb : Bool → Hp → Prop, (∀ H2, Same H1 H2 → Qb (p x) H2) → tt σ2 H1 Qb)
    (he : p x = true → ∀ H2, Same H H2 → (∃ ys, H2 D = some (.lst ys)) → ∀ Qv : VK, (∀ y H3, Same H2 H3 → R H3 x y → Qv y H3) → te σ2 H2 Qv) :
    tt σ2 H1 fun b H3 => if b = true then te σ2 H3 fun y H4 => ∃ acc, H4 D = some (.lst acc) ∧ acc.length < sizeLine ∧ CInv H D l p R (i + 1) (upd H4 D (.lst (acc ++ [y]))) else CInv H D l p R (i + 1) H3 := by
  obtain ⟨c1, ys, c2, c3⟩ := c
  refine ht _ fun H2 s2 => ?_
  by_cases hp : p x = true
  · rw [hp, if_pos rfl]
    refine he hp H2 (c1.trans s2) ⟨ys, s2 _ _ c2⟩ _ fun y H3 s3 r => ⟨ys, s3 _ _ (s2 _ _ c2), Nat.lt_of_le_of_lt (CInv.len c3) hz, same_mut ((c1.trans s2).trans s3) hD, ys ++ [y], upd_same, ?_⟩
    have eb : EBut D H3 (upd H3 D (.lst (ys ++ [y]))) := fun b o hb e => by rw [upd_ne hb]; exact e
    have eb1 : EBut D H1 (upd H3 D (.lst (ys ++ [y]))) := fun b o hb e => eb b o hb (s3 _ _ (s2 _ _ e))
    rw [take_snoc hx, List.filter_append, List.filter_cons, if_pos hp]
    exact Paired.snoc (Paired.imp (fun a b q => hR _ _ _ _ eb1 q) c3) (hR _ _ _ _ eb r)
  · have hp' : p x = false := by simpa using hp
    rw [hp', if_neg Bool.false_ne_true]
    refine ⟨c1.trans s2, ys, s2 _ _ c2, ?_⟩
    rw [take_snoc hx, List.filter_append, List.filter_cons, if_neg hp]
    simp only [List.filter_nil, List.append_nil]
    exact Paired.imp (fun a b q => hR _ _ _ _ (EBut.of s2) q) c3
/-- a comprehension over a list -/
theorem comp_list {a : Addr} (l : List α) (enc : α → V) (p : α → Bool) (R : Hp → α → V → Prop) (hD : H D = none) (hS : SqL K H a (l.map enc)) (hz : l.length < sizeLine) (hR : ∀ H1 H2 x y, EBut D H1 H2 → R H1 x y → R H2 x y)
    (hw : ∀ x : α, wipe ((wipe σ vs).set j (some (enc x))) vs = wipe σ vs)
    (ht : ∀ x, x ∈ l → ∀ H1, Same H H1 → ∀ Qb : Bool → Hp → Prop, (∀ H2, Same H1 H2 → Qb (p x) H2) → tt ((wipe σ vs).set j (some (enc x))) H1 Qb)
    (he : ∀ x, x ∈ l → p x = true → ∀ H1, Same H H1 → (∃ ys, H1 D = some (.lst ys)) → ∀ Qv : VK, (∀ y H2, Same H1 H2 → R H2 x y → Qv y H2) → te ((wipe σ vs).set j (some (enc x))) H1 Qv)
    {Q : Hp → Prop} (hQ : ∀ H1 ys, Same H H1 → H1 D = some (.lst ys) → Paired (R H1) (l.filter p) ys → Q H1) :
    ∃ W : Nat → Nat → Hp → Prop, (∃ m, W 0 m (upd H D (.lst []))) ∧ ∀ i m H1, W i m H1 → ((Itl K a).stop i H1 ∧ Q H1) ∨ ((Itl K a).go i H1 ∧ ∃ Nx : Hp → Prop, (∀ H', Nx H' → ∃ m', m' < m ∧ W (i + 1) m' H') ∧ ∀ x H', (Itl K a).yld i H1 x H' → gName j x (wipe σ vs) H' fun σ2 H2 => wipe σ2 vs = wipe σ vs ∧ tt σ2 H2 fun b H3 =>
        if b = true then te σ2 H3 fun y H4 => ∃ acc, H4 D = some (.lst acc) ∧ acc.length < sizeLine ∧ Nx (upd H4 D (.lst (acc ++ [y]))) else Nx H3) := by
  refine lc_list (g := gName j) (xs := l.map enc) (CInv H D l p R) (CInv.start hD) (fun i H1 _ c => c.1.seq hS) (fun i x H1 hi c => ?_) (fun H1 c => ?_)
  · rw [List.getElem?_map] at hi
    obtain ⟨y, hy, rfl⟩ := Option.map_eq_some_iff.mp hi
    exact ⟨hw y, c.turn hD hz hR hy (ht y (List.mem_of_getElem? hy) H1 c.1) (he y (List.mem_of_getElem? hy))⟩
  · obtain ⟨c1, ys, c2, c3⟩ := c
    rw [List.length_map, List.take_length] at c3
    exact hQ H1 ys c1 c2 c3
/-- .. over a tuple -/
theorem comp_tup {a : Addr} (l : List α) (enc : α → V) (p : α → Bool) (R : Hp → α → V → Prop) (hD : H D = none) (hS : SqT K H a (l.map enc)) (hz : l.length < sizeLine) (hR : ∀ H1 H2 x y, EBut D H1 H2 → R H1 x y → R H2 x y)
    (hw : ∀ x : α, wipe ((wipe σ vs).set j (some (enc x))) vs = wipe σ vs)
    (ht : ∀ x, x ∈ l → ∀ H1, Same H H1 → ∀ Qb : Bool → Hp → Prop, (∀ H2, Same H1 H2 → Qb (p x) H2) → tt ((wipe σ vs).set j (some (enc x))) H1 Qb)
    (he : ∀ x, x ∈ l → p x = true → ∀ H1, Same H H1 → (∃ ys, H1 D = some (.lst ys)) → ∀ Qv : VK, (∀ y H2, Same H1 H2 → R H2 x y → Qv y H2) → te ((wipe σ vs).set j (some (enc x))) H1 Qv)
    {Q : Hp → Prop} (hQ : ∀ H1 ys, Same H H1 → H1 D = some (.lst ys) → Paired (R H1) (l.filter p) ys → Q H1) :
    ∃ W : Nat → Nat → Hp → Prop, (∃ m, W 0 m (upd H D (.lst []))) ∧ ∀ i m H1, W i m H1 → ((Itt K a).stop i H1 ∧ Q H1) ∨ ((Itt K a).go i H1 ∧ ∃ Nx : Hp → Prop, (∀ H', Nx H' → ∃ m', m' < m ∧ W (i + 1) m' H') ∧ ∀ x H', (Itt K a).yld i H1 x H' → gName j x (wipe σ vs) H' fun σ2 H2 => wipe σ2 vs = wipe σ vs ∧ tt σ2 H2 fun b H3 =>
        if b = true then te σ2 H3 fun y H4 => ∃ acc, H4 D = some (.lst acc) ∧ acc.length < sizeLine ∧ Nx (upd H4 D (.lst (acc ++ [y]))) else Nx H3) := by
  refine lc_tup (g := gName j) (xs := l.map enc) (CInv H D l p R) (CInv.start hD) (fun i H1 _ c => same_tseq c.1 hS) (fun i x H1 hi c => ?_) (fun H1 c => ?_)
  · rw [List.getElem?_map] at hi
    obtain ⟨y, hy, rfl⟩ := Option.map_eq_some_iff.mp hi
    exact ⟨hw y, c.turn hD hz hR hy (ht y (List.mem_of_getElem? hy) H1 c.1) (he y (List.mem_of_getElem? hy))⟩
  · obtain ⟨c1, ys, c2, c3⟩ := c
    rw [List.length_map, List.take_length] at c3
    exact hQ H1 ys c1 c2 c3
/-- .. over range(lo, lo + n) -/
theorem comp_range {lo : Int} {n : Nat} (p : Nat → Bool) (R : Hp → Nat → V → Prop) (hD : H D = none) (hz : n < sizeLine) (hR : ∀ H1 H2 x y, EBut D H1 H2 → R H1 x y → R H2 x y)
    (hw : ∀ x : Nat, wipe ((wipe σ vs).set j (some (.int (lo + x)))) vs = wipe σ vs)
    (ht : ∀ x, x < n → ∀ H1, Same H H1 → ∀ Qb : Bool → Hp → Prop, (∀ H2, Same H1 H2 → Qb (p x) H2) → tt ((wipe σ vs).set j (some (.int (lo + x)))) H1 Qb)
    (he : ∀ x, x < n → p x = true → ∀ H1, Same H H1 → (∃ ys, H1 D = some (.lst ys)) → ∀ Qv : VK, (∀ y H2, Same H1 H2 → R H2 x y → Qv y H2) → te ((wipe σ vs).set j (some (.int (lo + x)))) H1 Qv)
    {Q : Hp → Prop} (hQ : ∀ H1 ys, Same H H1 → H1 D = some (.lst ys) → Paired (R H1) ((List.range n).filter p) ys → Q H1) :
    ∃ W : Nat → Nat → Hp → Prop, (∃ m, W 0 m (upd H D (.lst []))) ∧ ∀ i m H1, W i m H1 → ((Itr lo n).stop i H1 ∧ Q H1) ∨ ((Itr lo n).go i H1 ∧ ∃ Nx : Hp → Prop, (∀ H', Nx H' → ∃ m', m' < m ∧ W (i + 1) m' H') ∧ ∀ x H', (Itr lo n).yld i H1 x H' → gName j x (wipe σ vs) H' fun σ2 H2 => wipe σ2 vs = wipe σ vs ∧ tt σ2 H2 fun b H3 =>
        if b = true then te σ2 H3 fun y H4 => ∃ acc, H4 D = some (.lst acc) ∧ acc.length < sizeLine ∧ Nx (upd H4 D (.lst (acc ++ [y]))) else Nx H3) := by
  refine lc_range (g := gName j) (lo := lo) (n := n) (CInv H D (List.range n) p R) (CInv.start hD) (fun i H1 hi c => ?_) (fun H1 c => ?_)
  · have hy : (List.range n)[i]? = some i := by rw [List.getElem?_range hi]
    exact ⟨hw i, c.turn hD (by rw [List.length_range]; exact hz) hR hy (ht i hi H1 c.1) (he i hi)⟩
  · obtain ⟨c1, ys, c2, c3⟩ := c
    rw [List.take_of_length_le (by rw [List.length_range]; exact Nat.le_refl n)] at c3
    exact hQ H1 ys c1 c2 c3
end
section
variable {X : Cx} {a e : Expr} {ta te : TE} {f : Str} {pos : Pos}
/-! within a comprehension the written part is named -/
theorem ixT (K : PySem.W.Frag) (h : X.K = K := by rfl) : IxR X (rIxT K) := by
  subst h
  exact ix_tup
theorem ixL (K : PySem.W.Frag) (h : X.K = K := by rfl) : IxR X (rIxL K) := by
  subst h
  exact ix_list
theorem opIn (K : PySem.W.Frag) (h : X.K = K := by rfl) : OpR X (compareOp .In) (rIn K false) := by
  subst h
  exact op_in_seq
theorem opNotIn (K : PySem.W.Frag) (h : X.K = K := by rfl) : OpR X (compareOp .NotIn) (rIn K true) := by
  subst h
  exact op_notIn_seq
theorem fldK (K : PySem.W.Frag) (he : PE X e te) (h : X.K = K := by rfl) (hb : attributeBase e f X.env (eval e X.env) = eval e X.env := by rfl) : PE X (.Attribute e f pos) (tFld K te f) := by
  subst h
  exact pe_fld he hb
def rLenK (K : PySem.W.Frag) : List V → Hp → VK → Prop := fun xs H Q => ∃ x n, xs = [x] ∧ LenV K x H n ∧ Q (.int n) H
theorem lenK (K : PySem.W.Frag) (h : X.K = K := by rfl) : CallR X (.builtin "len") (rLenK K) := by
  subst h
  exact call_len
end
section
variable {X : Cx} {elt iter c : Expr} {scope : Scope} {x : Str} {px pos : Pos} {wi : TI} {te : TE} {t : TT}
/-- [e for x in ..], slot i is x -/
theorem lcn (i : Nat) (hi : PI X (.Name x px) iter wi) (he : ∀ (s : Shared) (H : Hp) (C : Addr) (cl : List (Str × Addr)) (fp : List Addr), PE (X.blk s H scope (compEnvC scope cl C X.env) fp) elt te) {N ps : List Str} {sc : Scope} (S : FnScope N ps sc) (eN : X.N = N := by rfl) (eS : X.env.scope = sc := by rfl) (ok : blkC N sc scope [(x, i)] = true := by decide +kernel)
    (hc : X.calm = true := by rfl) (hx : X.N[i]? = some x := by rfl) (hl : (PySem.relabel scope X.env).names.lookup x = some .local := by rfl) (hs : ∀ x, foldedSetIterable iter X.env x = pure x := by intro _; rfl) :
    PE X (.ListComp elt [⟨.Name x px, iter, [], 0⟩] scope pos) (tLc wi (gName i) tYes te [i]) :=
  pe_lc (own := [(x, i)]) hc (eN ▸ S.nd) hi (by rw [eN, eS]; exact blkOk_by ok) (fun _ _ _ _ _ => pg_name (eN ▸ S.nd) hx (Or.inl hl) (.inr hl)) (fun _ _ _ _ _ => pts_nil) he hs
/-- [e for x in .. if t] -/
theorem lct (i : Nat) (hi : PI X (.Name x px) iter wi) (ht : ∀ (s : Shared) (H : Hp) (C : Addr) (cl : List (Str × Addr)) (fp : List Addr), PT (X.blk s H scope (compEnvC scope cl C X.env) fp) c t) (he : ∀ (s : Shared) (H : Hp) (C : Addr) (cl : List (Str × Addr)) (fp : List Addr), PE (X.blk s H scope (compEnvC scope cl C X.env) fp) elt te) {N ps : List Str} {sc : Scope} (S : FnScope N ps sc) (eN : X.N = N := by rfl) (eS : X.env.scope = sc := by rfl) (ok : blkC N sc scope [(x, i)] = true := by decide +kernel)
    (hc : X.calm = true := by rfl) (hx : X.N[i]? = some x := by rfl) (hl : (PySem.relabel scope X.env).names.lookup x = some .local := by rfl) (hs : ∀ x, foldedSetIterable iter X.env x = pure x := by intro _; rfl) :
    PE X (.ListComp elt [⟨.Name x px, iter, [c], 0⟩] scope pos) (tLc wi (gName i) t te [i]) :=
  pe_lc (own := [(x, i)]) hc (eN ▸ S.nd) hi (by rw [eN, eS]; exact blkOk_by ok) (fun _ _ _ _ _ => pg_name (eN ▸ S.nd) hx (Or.inl hl) (.inr hl)) (fun s H C cl fp => pts_one (ht s H C cl fp)) he hs
end
end Spt

set_option Elab.async false
set_option linter.all false
set_option maxRecDepth 100000
set_option maxHeartbeats 4000000
/-! nets.py: the data, the small defs -/
namespace Spt
open PySem PySem.Spec PyProof.Rows L2
/-- numbers as values -/
def vn (n : Nat) : V := .int (n : Int)
def vns (l : List Nat) : List V := l.map vn
theorem vns_eq (l : List Nat) : vns l = (l.map fun n : Nat => (n : Int)).map V.int := by
  unfold vns
  rw [List.map_map]
  rfl
theorem vns_get {l : List Nat} {i : Nat} {x : V} (h : (vns l)[i]? = some x) : ∃ n, l[i]? = some n ∧ x = vn n := by
  unfold vns at h
  rw [List.getElem?_map] at h
  obtain ⟨n, h1, h2⟩ := Option.map_eq_some_iff.mp h
  exact ⟨n, h1, h2.symm⟩
theorem vns_at {l : List Nat} {i n : Nat} (h : l[i]? = some n) : (vns l)[i]? = some (vn n) := by
  unfold vns
  rw [List.getElem?_map, h]
  rfl
theorem vns_len (l : List Nat) : (vns l).length = l.length := by
  unfold vns
  rw [List.length_map]
theorem vns_flat (l : List Nat) : (vns l).all flatV = true := by
  unfold vns
  rw [List.all_map, List.all_eq_true]
  intro x _
  rfl
theorem inV_vns (n : Nat) (l : List Nat) : inV (vn n) (vns l) = decide (n ∈ l) := by
  unfold inV vns
  rw [List.any_map]
  rw [Bool.eq_iff_iff, List.any_eq_true, decide_eq_true_eq]
  constructor
  · rintro ⟨x, hx, h⟩
    have h : eqV (V.int (x : Int)) (V.int (n : Int)) = true := h
    have e : (x : Int) = (n : Int) := by simpa [eqV] using h
    have : x = n := by omega
    rw [← this]
    exact hx
  · intro h
    exact ⟨n, h, by show eqV (V.int (n : Int)) (V.int (n : Int)) = true; simp [eqV]⟩
theorem sz64 {n : Nat} (h : n ≤ 100000) : n < sizeLine := Nat.lt_of_le_of_lt h (by decide)
theorem sz64' {n : Nat} (h : n ≤ 100000) : n ≤ sizeLine := Nat.le_trans h (by decide)
/-- the links' tuple at lt -/
def LinksO (H : Hp) (lt : Addr) (es : List (Nat × Nat)) : Prop := ∃ as : List Addr, H lt = some (.tup (as.map V.ref)) ∧ Paired (fun (a : Addr) (e : Nat × Nat) => H a = some (.tup [vn e.1, vn e.2])) as es
/-- a Net at g -/
def NetO (K : PySem.W.Frag) (H : Hp) (g : Addr) (n root : Nat) (lt : Addr) : Prop := ∃ dx fs, H g = some (.ins (He.ga K "Net") dx fs) ∧ fs.lookup ("many" : Str) = some (vn n) ∧ fs.lookup ("root" : Str) = some (vn root) ∧ fs.lookup ("links" : Str) = some (.ref lt)
theorem LinksO.same {H H' : Hp} {lt : Addr} {es : List (Nat × Nat)} (s : Same H H') (h : LinksO H lt es) : LinksO H' lt es := by
  obtain ⟨as, h1, h2⟩ := h
  exact ⟨as, s _ _ h1, Paired.imp (fun a b q => s _ _ q) h2⟩
theorem NetO.same {K : PySem.W.Frag} {H H' : Hp} {g n root lt} (s : Same H H') (h : NetO K H g n root lt) : NetO K H' g n root lt := by
  obtain ⟨dx, fs, h1, h2⟩ := h
  exact ⟨dx, fs, s _ _ h1, h2⟩
theorem LinksO.get {H : Hp} {lt : Addr} {es : List (Nat × Nat)} {i : Nat} {e : Nat × Nat} (h : LinksO H lt es) (he : es[i]? = some e) : ∃ xs a, H lt = some (.tup xs) ∧ xs[i]? = some (.ref a) ∧ H a = some (.tup [vn e.1, vn e.2]) := by
  obtain ⟨as, h1, h2⟩ := h
  obtain ⟨a, h3, h4⟩ := Paired.get' h2 he
  exact ⟨_, a, h1, by rw [List.getElem?_map, h3]; rfl, h4⟩
theorem LinksO.len {H : Hp} {lt : Addr} {es : List (Nat × Nat)} (h : LinksO H lt es) : ∃ xs, H lt = some (.tup xs) ∧ xs.length = es.length := by
  obtain ⟨as, h1, h2⟩ := h
  exact ⟨_, h1, by rw [List.length_map, Paired.len h2]⟩
section
variable {P : Program} {w : World} {K : PySem.W.Frag} {mg : Str → Option Value} {base : Heap}
/-! is_pair -/
theorem scIsPair : FnScope ["thing"] ["thing"] (defScope sPIsPair) := ⟨rfl, rfl, rfl, by decide +kernel, rfl, by decide +kernel, by decide +kernel⟩
def spIsPair : Sp := fun vs H Q _ => ∃ (a : Addr) (u v : V), vs = [.ref a] ∧ H a = some (.tup [u, v]) ∧ Q (.bl true) H
theorem okIsPair (T : Txt K mg) : FnK P w K mg base CX0 1 (He.ga K "is_pair") ["thing"] spIsPair := by
  refine FnK.of T.d_PIsPair scIsPair (fun _ _ _ _ _ _ us hl => match us, hl with | [_], _ => rfl) (fun vs H Q E h => ?_) (fun cdv A outer s H vs Q E hr h => ?_)
  · obtain ⟨a, u, v, rfl, _⟩ := h
    rfl
  · obtain ⟨a, u, v, rfl, ha, k⟩ := h
    refine ⟨_, pss_one (ps_ret (pe_and (cb call_isTy T.f_isinstance (a2 (pv 0) (bty "tuple" T.f_tuple))) (pe_one (pe_cmpR op_eq (cb call_len T.f_len (a1 (pv 0))) pe_int (nomark _))))), ?_⟩
    refine ⟨_, rfl, _, _, _, _, rfl, .base (.tup ha), (by decide +kernel : kitB "tuple" "tuple" = some true), true, rfl, ?_⟩
    refine ⟨_, rfl, _, 2, rfl, .inr ⟨_, SqT.of ha, rfl⟩, rfl, ?_⟩
    exact k
/-! is_lot, of an ascending tuple of numbers below many -/
def lotOk : Int → List Nat → Nat → Prop
  | _, [], _ => True
  | last, z :: r, m => last < (z : Int) ∧ z < m ∧ lotOk z r m
theorem scIsLot : FnScope ["thing", "many", "last", "number"] ["thing", "many"] (defScope sPIsLot) := ⟨rfl, rfl, rfl, by decide +kernel, rfl, by decide +kernel, by decide +kernel⟩
def spIsLot : Sp := fun vs H Q _ => ∃ (a : Addr) (l : List Nat) (m : Nat), vs = [.ref a, vn m] ∧ H a = some (.tup (vns l)) ∧ lotOk (-1) l m ∧ Q (.bl true) H
theorem okIsLot (T : Txt K mg) : FnK P w K mg base CX0 3 (He.ga K "is_lot") ["thing", "many"] spIsLot := by
  refine FnK.of T.d_PIsLot scIsLot (fun _ _ _ _ _ _ us hl => match us, hl with | [_, _], _ => rfl) (fun vs H Q E h => ?_) (fun cdv A outer s H vs Q E hr h => ?_)
  · obtain ⟨a, l, m, rfl, _⟩ := h
    rfl
  · obtain ⟨a, l, m, rfl, ha, ok, k⟩ := h
    refine ⟨_, pss_cons (ps_if (pt_not (pt_val (cb call_isTy T.f_isinstance (a2 (pv 0) (bty "tuple" T.f_tuple))))) (pss_one (ps_ret pe_bl)) pss_nil)
      (pss_cons (ps_set (i := 2) scIsLot.nd rfl (.inl rfl) (pe_un un_neg pe_int))
      (pss_cons (ps_for PassesOwn.never rfl (pi_tup (pv 0)) (pg_name (i := 3) scIsLot.nd rfl (.inl rfl))
        (pss_cons (ps_if (pt_not (pt_val (cl (okIsWithin T) hr T.g_is_within (a3 (pv 3) (pe_op op_add (pv 2) pe_int) (pe_op op_sub (pv 1) pe_int))))) (pss_one (ps_ret pe_bl)) pss_nil)
          (pss_one (ps_set (i := 2) scIsLot.nd rfl (.inl rfl) (pv 3)))))
      (pss_one (ps_ret pe_bl)))), ?_⟩
    refine ⟨_, rfl, _, _, _, _, rfl, .base (.tup ha), (by decide +kernel : kitB "tuple" "tuple" = some true), true, rfl, ?_⟩
    refine iteF ?_
    refine ⟨_, rfl, ?_⟩
    refine ⟨_, rfl, a, rfl, ⟨_, SqT.of ha⟩, for_tup (K := K) (a := a) (xs := vns l) (fun i σ H' => H' = H ∧ ∃ (last : Int) (v : Option V), σ = [some (.ref a), some (vn m), some (.int last), v] ∧ lotOk last (l.drop i) m)
      ⟨rfl, -1, none, rfl, ok⟩ (fun i σ H' _ ⟨e, _⟩ => by rw [e]; exact SqT.of ha) ?_ ?_⟩
    · rintro i x σ H' hi ⟨rfl, last, v, rfl, lo⟩
      obtain ⟨z, hz, rfl⟩ := vns_get hi
      have hd : l.drop i = z :: l.drop (i + 1) := by
        obtain ⟨h1, h2⟩ := List.getElem?_eq_some_iff.mp hz
        rw [List.drop_eq_getElem_cons h1, h2]
      rw [hd] at lo
      obtain ⟨l1, l2, l3⟩ := lo
      refine ⟨_, rfl, _, rfl, _, _, rfl, rfl, _, rfl, _, _, rfl, rfl, _, _, _, rfl, true, ?_, ?_⟩
      · have e : decide (last + 1 ≤ (z : Int) ∧ (z : Int) ≤ (m : Int) - 1) = true := decide_eq_true ⟨by omega, by omega⟩
        rw [e]
      · refine iteF ?_
        exact ⟨_, rfl, rfl, _, _, rfl, l3⟩
    · rintro σ H' ⟨rfl, _⟩
      exact k
end
end Spt

set_option Elab.async false
set_option linter.all false
set_option maxRecDepth 100000
set_option maxHeartbeats 4000000
/-! nets.py: is_link .. every_link, mask_of -/
namespace Spt
open PySem PySem.Spec PyProof.Rows L2
/-- whether a link enters a lot of places -/
def entersL (e : Nat × Nat) (l : List Nat) : Bool := !decide (e.1 ∈ l) && decide (e.2 ∈ l)
theorem vn_pow (x : Nat) : V.int (1 * 2 ^ (x : Int).toNat) = vn (2 ^ x) := by
  unfold vn
  rw [Int.one_mul, Int.toNat_natCast, Int.natCast_pow]
  rfl
theorem sum_cast : ∀ l : List Nat, (l.map fun n : Nat => (n : Int)).sum = ((l.sum : Nat) : Int)
  | [] => rfl
  | a :: r => by
    rw [List.map_cons, List.sum_cons, List.sum_cons, sum_cast r]
    omega
section
variable {P : Program} {w : World} {K : PySem.W.Frag} {mg : Str → Option Value} {base : Heap}
/-! mask_of -/
theorem scMaskOf : FnScope ["places", "place"] ["places"] (defScope sPMaskOf) := ⟨rfl, rfl, rfl, by decide +kernel, rfl, by decide +kernel, by decide +kernel⟩
def spMaskOf (K : PySem.W.Frag) : Sp := fun vs H Q _ => ∃ (a : Addr) (l : List Nat), vs = [.ref a] ∧ SqT K H a (vns l) ∧ l.length ≤ 1000 ∧ (∀ x ∈ l, x ≤ 1000) ∧ ∀ H', Same H H' → Q (vn (maskOf l)) H'
theorem okMaskOf (T : Txt K mg) : FnK P w K mg base CX0 1 (He.ga K "mask_of") ["places"] (spMaskOf K) := by
  refine FnK.of T.d_PMaskOf scMaskOf (fun _ _ _ _ _ _ us hl => match us, hl with | [_], _ => rfl) (fun vs H Q E h => ?_) (fun cdv A outer s H vs Q E hr h => ?_)
  · obtain ⟨a, l, rfl, _⟩ := h
    rfl
  · obtain ⟨a, l, rfl, ha, hl, hx, k⟩ := h
    refine ⟨_, pss_one (ps_ret (cb (cr_sum rfl) T.f_sum (a1 (lcn 1 (pi_tup (pv 0)) (fun _ _ _ _ _ => pe_op op_shl pe_int (pv 1)) scMaskOf)))), ?_⟩
    refine ⟨_, rfl, a, rfl, ⟨_, ha⟩, fun D hD => ?_⟩
    refine comp_tup (K := K) l vn (fun _ => true) (fun _ x y => y = vn (2 ^ x)) hD ha (sz64 (by omega)) (fun _ _ _ _ _ h => h) (fun _ => rfl) (fun x _ H1 s1 Qb q => q H1 (Same.refl _)) (fun x hm _ H1 s1 _ Qv q => ?_) (fun H1 ys s1 h1 r => ?_)
    · have := hx x hm
      refine ⟨_, rfl, _, _, rfl, rfl, ⟨by omega, by omega, by decide⟩, ?_⟩
      exact q _ H1 (Same.refl _) (vn_pow x)
    · rw [List.filter_eq_self.mpr (fun _ _ => rfl)] at r
      have e := Paired.eq_map r
      subst e
      refine ⟨D, (l.map fun p => 2 ^ p).map fun n : Nat => (n : Int), rfl, ?_, ?_⟩
      · rw [← vns_eq]
        unfold vns
        rw [List.map_map]
        exact SqL.of h1
      · rw [sum_cast]
        exact k H1 s1
/-! is_link, of a link -/
theorem scIsLink : FnScope ["many", "thing", "place"] ["many", "thing"] (defScope sPIsLink) := ⟨rfl, rfl, rfl, by decide +kernel, rfl, by decide +kernel, by decide +kernel⟩
def spIsLink : Sp := fun vs H Q _ => ∃ (a : Addr) (n x y : Nat), vs = [vn n, .ref a] ∧ H a = some (.tup [vn x, vn y]) ∧ x < n ∧ y < n ∧ x ≠ y ∧ ∀ H', Same H H' → Q (.bl true) H'
theorem okIsLink (T : Txt K mg) : FnK P w K mg base CX0 3 (He.ga K "is_link") ["many", "thing"] spIsLink := by
  refine FnK.of T.d_PIsLink scIsLink (fun _ _ _ _ _ _ us hl => match us, hl with | [_, _], _ => rfl) (fun vs H Q E h => ?_) (fun cdv A outer s H vs Q E hr h => ?_)
  · obtain ⟨a, n, x, y, rfl, _⟩ := h
    rfl
  · obtain ⟨a, n, x, y, rfl, ha, hx, hy, hxy, k⟩ := h
    refine ⟨_, pss_cons (ps_if (PW.pt (pw_or (pt_not (pt_val (cl ((okIsPair T).mono (by decide)) hr T.g_is_pair (a1 (pv 1))))) (pw_or1 (pt_not (pt_val (cb (cr_all rfl) T.f_all (a1 (lcn 2 (pi_tup (pv 1)) (fun _ _ _ _ _ => cl (okIsWithin T) hr T.g_is_within (a3 (pv 2) pe_int (pe_op op_sub (pv 0) pe_int))) scIsLink)))))))) (pss_one (ps_ret pe_bl)) pss_nil)
      (pss_one (ps_ret (pe_cmpR op_ne (pe_ix ix_tup (pv 1) pe_int (fun _ _ => rfl)) (pe_ix ix_tup (pv 1) pe_int (fun _ _ => rfl)) (nomark _)))), ?_⟩
    refine ⟨_, rfl, a, _, _, rfl, ha, true, rfl, ?_⟩
    refine iteF ?_
    refine ⟨_, rfl, a, rfl, ⟨_, SqT.of ha⟩, fun D hD => ?_⟩
    refine comp_tup (K := K) [x, y] vn (fun _ => true) (fun _ x y => y = .bl true) hD (SqT.of ha) (sz64 (by simp)) (fun _ _ _ _ _ h => h) (fun _ => rfl) (fun x _ H1 s1 Qb q => q H1 (Same.refl _)) (fun z hm _ H1 s1 _ Qv q => ?_) (fun H1 ys s1 h1 r => ?_)
    · refine ⟨_, rfl, _, rfl, _, _, rfl, rfl, _, _, _, rfl, ?_⟩
      refine q _ H1 (Same.refl _) ?_
      have : z < n := by
        simp only [List.mem_cons, List.not_mem_nil, or_false] at hm
        rcases hm with rfl | rfl <;> assumption
      rw [decide_eq_true (show (0 : Int) ≤ (z : Int) ∧ (z : Int) ≤ (n : Int) - 1 by omega)]
    · rw [List.filter_eq_self.mpr (fun _ _ => rfl)] at r
      have e := Paired.eq_map r
      subst e
      refine ⟨D, [true, true], rfl, SqL.of h1, true, rfl, ?_⟩
      refine iteF ?_
      refine ⟨_, rfl, a, _, 0, _, rfl, rfl, SqT.of (s1 _ _ ha), rfl, _, rfl, a, _, 1, _, rfl, rfl, SqT.of (s1 _ _ ha), rfl, rfl, ?_⟩
      have e : (!decide (vn x = vn y)) = true := by
        have : vn x ≠ vn y := fun z => by
          have z : (x : Int) = (y : Int) := by injection z
          omega
        rw [decide_eq_false this]
        rfl
      show Q (V.bl (!decide (vn x = vn y))) H1
      rw [e]
      exact k H1 s1
/-! check_net, check_number -/
theorem scCheckNet : FnScope ["net"] ["net"] (defScope sPCheckNet) := ⟨rfl, rfl, rfl, by decide +kernel, rfl, by decide +kernel, by decide +kernel⟩
def spCheckNet (K : PySem.W.Frag) : Sp := fun vs H Q _ => ∃ (g lt : Addr) (n root : Nat), vs = [.ref g] ∧ NetO K H g n root lt ∧ Q .non H
theorem okCheckNet (T : Txt K mg) : FnK P w K mg base CX0 1 (He.ga K "check_net") ["net"] (spCheckNet K) := by
  refine FnK.of T.d_PCheckNet scCheckNet (fun _ _ _ _ _ _ us hl => match us, hl with | [_], _ => rfl) (fun vs H Q E h => ?_) (fun cdv A outer s H vs Q E hr h => ?_)
  · obtain ⟨g, lt, n, root, rfl, _⟩ := h
    rfl
  · obtain ⟨g, lt, n, root, rfl, ⟨dx, fs, hg, _⟩, k⟩ := h
    refine ⟨_, pss_one (ps_if (pt_not (pt_val (cb call_isOwn T.f_isinstance (a2 (pv 0) (pe_glob (v := .ref (He.ga K "Net")) rfl T.g_Net rfl))))) pss_never pss_nil), ?_⟩
    refine ⟨_, rfl, g, _, dx, fs, rfl, hg, T.c_Net, T.ex.net, true, rfl, ?_⟩
    exact iteF k
theorem scCheckNumber : FnScope ["thing", "least", "most"] ["thing", "least", "most"] (defScope sPCheckNumber) := ⟨rfl, rfl, rfl, by decide +kernel, rfl, by decide +kernel, by decide +kernel⟩
def spCheckNumber : Sp := fun vs H Q _ => ∃ i a b : Int, vs = [.int i, .int a, .int b] ∧ a ≤ i ∧ i ≤ b ∧ Q .non H
theorem okCheckNumber (T : Txt K mg) : FnK P w K mg base CX0 3 (He.ga K "check_number") ["thing", "least", "most"] spCheckNumber := by
  refine FnK.of T.d_PCheckNumber scCheckNumber (fun _ _ _ _ _ _ us hl => match us, hl with | [_, _, _], _ => rfl) (fun vs H Q E h => ?_) (fun cdv A outer s H vs Q E hr h => ?_)
  · obtain ⟨i, a, b, rfl, _⟩ := h
    rfl
  · obtain ⟨i, a, b, rfl, h1, h2, k⟩ := h
    refine ⟨_, pss_one (ps_if (pt_not (pt_val (cl (okIsWithin T) hr T.g_is_within (a3 (pv 0) (pv 1) (pv 2))))) pss_never pss_nil), ?_⟩
    refine ⟨_, rfl, _, rfl, _, rfl, i, a, b, rfl, true, ?_, ?_⟩
    · rw [decide_eq_true ⟨h1, h2⟩]
    · exact iteF k
/-! is_lot_of, of a lot of links -/
theorem scIsLotOf : FnScope ["net", "thing"] ["net", "thing"] (defScope sPIsLotOf) := ⟨rfl, rfl, rfl, by decide +kernel, rfl, by decide +kernel, by decide +kernel⟩
def spIsLotOf (K : PySem.W.Frag) : Sp := fun vs H Q _ => ∃ (g lt a : Addr) (n root : Nat) (es : List (Nat × Nat)) (l : List Nat), vs = [.ref g, .ref a] ∧ NetO K H g n root lt ∧ LinksO H lt es ∧ H a = some (.tup (vns l)) ∧ lotOk (-1) l es.length ∧ Q (.bl true) H
theorem okIsLotOf (T : Txt K mg) : FnK P w K mg base CX0 4 (He.ga K "is_lot_of") ["net", "thing"] (spIsLotOf K) := by
  refine FnK.of T.d_PIsLotOf scIsLotOf (fun _ _ _ _ _ _ us hl => match us, hl with | [_, _], _ => rfl) (fun vs H Q E h => ?_) (fun cdv A outer s H vs Q E hr h => ?_)
  · obtain ⟨g, lt, a, n, root, es, l, rfl, _⟩ := h
    rfl
  · obtain ⟨g, lt, a, n, root, es, l, rfl, ⟨dx, fs, hg, f1, f2, f3⟩, hlt, ha, ok, k⟩ := h
    obtain ⟨xs, hx, hxl⟩ := hlt.len
    refine ⟨_, pss_one (ps_ret (cl (okIsLot T) hr T.g_is_lot (a2 (pv 1) (cb call_len T.f_len (a1 (pe_fld (pv 0) rfl)))))), ?_⟩
    refine ⟨_, rfl, _, rfl, g, _, dx, fs, _, rfl, hg, T.c_Net, T.n_links, f3, _, es.length, rfl, .inr ⟨_, SqT.of hx, hxl.symm⟩, a, l, es.length, rfl, ha, ok, k⟩
/-! does_enter -/
theorem scDoesEnter : FnScope ["net", "link", "places"] ["net", "link", "places"] (defScope sPDoesEnter) := ⟨rfl, rfl, rfl, by decide +kernel, rfl, by decide +kernel, by decide +kernel⟩
def spDoesEnter (K : PySem.W.Frag) : Sp := fun vs H Q _ => ∃ (g lt a : Addr) (n root i : Nat) (es : List (Nat × Nat)) (e : Nat × Nat) (l : List Nat), vs = [.ref g, vn i, .ref a] ∧ NetO K H g n root lt ∧ LinksO H lt es ∧ SqT K H a (vns l) ∧ es[i]? = some e ∧ Q (.bl (entersL e l)) H
theorem okDoesEnter (T : Txt K mg) : FnK P w K mg base CX0 1 (He.ga K "does_enter") ["net", "link", "places"] (spDoesEnter K) := by
  refine FnK.of T.d_PDoesEnter scDoesEnter (fun _ _ _ _ _ _ us hl => match us, hl with | [_, _, _], _ => rfl) (fun vs H Q E h => ?_) (fun cdv A outer s H vs Q E hr h => ?_)
  · obtain ⟨g, lt, a, n, root, i, es, e, l, rfl, _⟩ := h
    rfl
  · obtain ⟨g, lt, a, n, root, i, es, e, l, rfl, ⟨dx, fs, hg, f1, f2, f3⟩, hlt, ha, he, k⟩ := h
    obtain ⟨xs, b, h1, h2, h3⟩ := hlt.get he
    refine ⟨_, pss_one (ps_ret (pe_and (pe_cmpR op_notIn_seq (pe_ix ix_tup (pe_ix ix_tup (pe_fld (pv 0) rfl) (pv 1) (fun _ _ => rfl)) pe_int (fun _ _ => rfl)) (pv 2) (by rfl))
      (pe_one (pe_cmpR op_in_seq (pe_ix ix_tup (pe_ix ix_tup (pe_fld (pv 0) rfl) (pv 1) (fun _ _ => rfl)) pe_int (fun _ _ => rfl)) (pv 2) (by rfl))))), ?_⟩
    refine ⟨_, rfl, g, _, dx, fs, _, rfl, hg, T.c_Net, T.n_links, f3, _, rfl, lt, _, _, _, rfl, rfl, SqT.of h1, atI_nat h2, b, _, 0, _, rfl, rfl, SqT.of h3, rfl, _, rfl, a, _, rfl, .inr ha, rfl, vns_flat l, _, rfl, ?_⟩
    rw [inV_vns]
    by_cases c : e.1 ∈ l
    · rw [decide_eq_true c]
      refine iteF ?_
      have z : entersL e l = false := by
        unfold entersL
        rw [decide_eq_true c]
        rfl
      rw [z] at k
      exact k
    · rw [decide_eq_false c]
      refine iteT ?_
      refine ⟨_, rfl, g, _, dx, fs, _, rfl, hg, T.c_Net, T.n_links, f3, _, rfl, lt, _, _, _, rfl, rfl, SqT.of h1, atI_nat h2, b, _, 1, _, rfl, rfl, SqT.of h3, rfl, _, rfl, a, _, rfl, .inr ha, rfl, vns_flat l, ?_⟩
      rw [inV_vns]
      have z : entersL e l = decide (e.2 ∈ l) := by
        unfold entersL
        rw [decide_eq_false c]
        rfl
      rw [z] at k
      exact k
end
end Spt

set_option Elab.async false
set_option linter.all false
set_option maxRecDepth 100000
set_option maxHeartbeats 4000000
/-! nets.py: entering_of, every_link, Net; rates.py: width_into -/
namespace Spt
open PySem PySem.Spec PyProof.Rows L2
def linkAt (es : List (Nat × Nat)) (i : Nat) : Nat × Nat := es.getD i (0, 0)
theorem linkAt_eq {es : List (Nat × Nat)} {i : Nat} (h : i < es.length) : es[i]? = some (linkAt es i) := by
  unfold linkAt
  rw [List.getD_eq_getElem?_getD, List.getElem?_eq_getElem h]
  rfl
/-- the links that enter a lot of places -/
def enterOf (es : List (Nat × Nat)) (ls l : List Nat) : List Nat := ls.filter fun i => entersL (linkAt es i) l
def widthInto (es : List (Nat × Nat)) (ws l : List Nat) : Nat := ((enterOf es (List.range es.length) l).map fun i => ws.getD i 0).sum
section
variable {P : Program} {w : World} {K : PySem.W.Frag} {mg : Str → Option Value} {base : Heap}
/-! entering_of -/
theorem scEnteringOf : FnScope ["net", "lot", "places", "link"] ["net", "lot", "places"] (defScope sPEnteringOf) := ⟨rfl, rfl, rfl, by decide +kernel, rfl, by decide +kernel, by decide +kernel⟩
def spEnteringOf (K : PySem.W.Frag) : Sp := fun vs H Q _ => ∃ (g lt o a : Addr) (n root : Nat) (es : List (Nat × Nat)) (ls l : List Nat), vs = [.ref g, .ref o, .ref a] ∧ NetO K H g n root lt ∧ LinksO H lt es ∧ SqT K H o (vns ls) ∧ (∀ i ∈ ls, i < es.length) ∧ ls.length ≤ 1000 ∧ SqT K H a (vns l) ∧
  ∀ H' D, Same H H' → H D = none → H' D = some (.lst (vns (enterOf es ls l))) → Q (.ref D) H'
theorem okEnteringOf (T : Txt K mg) : FnK P w K mg base CX0 2 (He.ga K "entering_of") ["net", "lot", "places"] (spEnteringOf K) := by
  refine FnK.of T.d_PEnteringOf scEnteringOf (fun _ _ _ _ _ _ us hl => match us, hl with | [_, _, _], _ => rfl) (fun vs H Q E h => ?_) (fun cdv A outer s H vs Q E hr h => ?_)
  · obtain ⟨g, lt, o, a, n, root, es, ls, l, rfl, _⟩ := h
    rfl
  · obtain ⟨g, lt, o, a, n, root, es, ls, l, rfl, hg, hlt, ho, hls, hz, ha, k⟩ := h
    refine ⟨_, pss_one (ps_ret (lct 3 (pi_tup (pv 1)) (fun _ _ _ _ _ => pt_val (cl (okDoesEnter T) hr T.g_does_enter (a3 (pv 0) (pv 3) (pv 2)))) (fun _ _ _ _ _ => pv 3) scEnteringOf)), ?_⟩
    refine ⟨_, rfl, o, rfl, ⟨_, ho⟩, fun D hD => ?_⟩
    refine comp_tup (K := K) ls vn (fun i => entersL (linkAt es i) l) (fun _ x y => y = vn x) hD ho (sz64 (by omega)) (fun _ _ _ _ _ h => h) (fun _ => rfl) (fun x hm H1 s1 Qb q => ?_) (fun x hm _ H1 s1 _ Qv q => ⟨_, rfl, q _ H1 (Same.refl _) rfl⟩) (fun H1 ys s1 h1 r => ?_)
    · exact ⟨_, rfl, _, rfl, _, rfl, g, lt, a, n, root, x, es, linkAt es x, l, rfl, hg.same s1, hlt.same s1, same_tseq s1 ha, linkAt_eq (hls x hm), _, rfl, q H1 (Same.refl _)⟩
    · have e := Paired.eq_map r
      subst e
      exact k H1 D s1 hD h1
/-! every_link -/
theorem scEveryLink : FnScope ["net"] ["net"] (defScope sPEveryLink) := ⟨rfl, rfl, rfl, by decide +kernel, rfl, by decide +kernel, by decide +kernel⟩
def spEveryLink (K : PySem.W.Frag) : Sp := fun vs H Q _ => ∃ (g lt : Addr) (n root : Nat) (es : List (Nat × Nat)), vs = [.ref g] ∧ NetO K H g n root lt ∧ LinksO H lt es ∧ es.length ≤ 1000 ∧ ∀ H' t, Same H H' → H t = none → H' t = some (.tup (vns (List.range es.length))) → Q (.ref t) H'
theorem rgV_vns (n : Nat) : rgV 0 (n : Int) = vns (List.range n) := by
  unfold rgV vns
  have e : ((n : Int) - 0).toNat = n := by omega
  rw [e]
  exact List.map_congr_left fun i _ => by
    show V.int (0 + (i : Int)) = V.int (i : Int)
    rw [Int.zero_add]
theorem okEveryLink (T : Txt K mg) : FnK P w K mg base CX0 2 (He.ga K "every_link") ["net"] (spEveryLink K) := by
  refine FnK.of T.d_PEveryLink scEveryLink (fun _ _ _ _ _ _ us hl => match us, hl with | [_], _ => rfl) (fun vs H Q E h => ?_) (fun cdv A outer s H vs Q E hr h => ?_)
  · obtain ⟨g, lt, n, root, es, rfl, _⟩ := h
    rfl
  · obtain ⟨g, lt, n, root, es, rfl, hg, hlt, hz, k⟩ := h
    obtain ⟨dx, fs, hg', f1, f2, f3⟩ := id hg
    obtain ⟨xs, hx, hxl⟩ := hlt.len
    refine ⟨_, pss_cons (ps_expr (cl (okCheckNet T) hr T.g_check_net (a1 (pv 0)))) (pss_one (ps_ret (pe_tupRg rfl rfl T.f_tuple (prg_1 rfl T.f_range (cb call_len T.f_len (a1 (pe_fld (pv 0) rfl))))))), ?_⟩
    refine ⟨_, rfl, g, lt, n, root, rfl, hg, ?_⟩
    refine ⟨_, rfl, g, _, dx, fs, _, rfl, hg', T.c_Net, T.n_links, f3, _, es.length, rfl, .inr ⟨_, SqT.of hx, hxl.symm⟩, ?_⟩
    refine ⟨_, rfl, RgOk.of_le (by omega) (by omega) (by omega) (by omega), fun t ht => ?_⟩
    refine k _ t (same_new ht) ht ?_
    rw [rgV_vns, upd_same]
end
end Spt

set_option Elab.async false
set_option linter.all false
set_option maxRecDepth 100000
set_option maxHeartbeats 4000000
/-! itertools.combinations(a list of ints, r): made, drawn from, at the library's level -/
namespace SptC
open PySem PySem.Spec
open Sem (wp)
theorem mro_c : mroOf (.type "itertools.combinations") = pure [.type "itertools.combinations", .type "object"] := by rw [mroOf_type]; kernel_rfl
theorem lookup_new : typeLookup (.type "itertools.combinations") "__new__" = pure (some (.builtin "itertools.combinations.__new__")) := by rw [typeLookup_type, builtinLookup_eq_fast]; kernel_rfl
theorem slot_init : Slot "itertools.combinations" "__init__" "object.__init__" :=
  .of (owner := "object") (n := "__init__") (by rw [typeLookup_type, builtinLookup_eq_fast]; kernel_rfl) (by decide +kernel) (by decide +kernel) (by decide +kernel)
    (by first | exact .inl (by decide +kernel) | exact .inr (by decide +kernel)) (by rw [isSubtype_type]; kernel_rfl)
theorem sub_c : isSubtype (.type "itertools.combinations") (.type "itertools.combinations") = pure true := by rw [isSubtype_type]; kernel_rfl
theorem plain_new : plainId "itertools.combinations.__new__" = true := by decide +kernel
theorem called_c : TypeCalled "itertools.combinations" "itertools.combinations.__new__" "object.__init__" :=
  ⟨by decide +kernel, by decide +kernel, ⟨_, _, mro_c⟩, madeBy_type mro_c lookup_new (by decide +kernel), by decide +kernel, sub_c, slot_init⟩
theorem typeCall_2 (a b : Value) : checkTypeCall "itertools.combinations" ⟨[a, b], []⟩ = pure () := by kernel_rfl
theorem newCall_2 (a b : Value) : checkBuiltinCall "itertools.combinations.__new__" ⟨[.type "itertools.combinations", a, b], []⟩ = pure () := by kernel_rfl
theorem entry_new : entryFor table "itertools.combinations.__new__" = some Builtin.«itertools.combinations.__new__» := entryFor_of_tree (by kernel_rfl)
theorem slot_iter : Slot "itertools.combinations" "__iter__" "itertools.combinations.__iter__" :=
  .of (owner := "itertools.combinations") (n := "__iter__") (by rw [typeLookup_type, builtinLookup_eq_fast]; kernel_rfl) (by decide +kernel) (by decide +kernel) (by decide +kernel)
    (by first | exact .inl (by decide +kernel) | exact .inr (by decide +kernel)) sub_c
theorem slot_next : Slot "itertools.combinations" "__next__" "itertools.combinations.__next__" :=
  .of (owner := "itertools.combinations") (n := "__next__") (by rw [typeLookup_type, builtinLookup_eq_fast]; kernel_rfl) (by decide +kernel) (by decide +kernel) (by decide +kernel)
    (by first | exact .inl (by decide +kernel) | exact .inr (by decide +kernel)) sub_c
theorem entry_iter : entryFor table "itertools.combinations.__iter__" = some Builtin.«dict_keyiterator.__iter__» :=
  entryFor_alias (id' := "dict_keyiterator.__iter__") (by kernel_rfl) (by first | rfl | decide +kernel | (unfold String.splitOn; simp +decide [String.splitOnAux])) (by decide +kernel) (by kernel_rfl)
theorem entry_next : entryFor table "itertools.combinations.__next__" = some Builtin.«itertools.combinations.__next__» := entryFor_of_tree (by kernel_rfl)
theorem noDict_c : typeHasDict (.type "itertools.combinations") = false := by decide +kernel
theorem noLen : typeLookup (.type "itertools.combinations") "__len__" = pure none := by rw [typeLookup_type, builtinLookup_eq_fast]; kernel_rfl
theorem noHint : typeLookup (.type "itertools.combinations") "__length_hint__" = pure none := by rw [typeLookup_type, builtinLookup_eq_fast]; kernel_rfl
end SptC

set_option Elab.async false
set_option linter.all false
set_option maxRecDepth 100000
set_option maxHeartbeats 4000000
namespace SptC
open PySem PySem.Spec
open Sem (wp)
theorem owner_c : Manifest.owners.lookup (String.ofList ['s', 'n', 'o', 'i', 't', 'a', 'n', 'i', 'b', 'm', 'o', 'c', '.', 's', 'l', 'o', 'o', 't', 'r', 'e', 't', 'i'].reverse) = some Manifest.sig_itertools_combinations := by kernel_rfl
theorem args_iter (a : Value) : argsOk "itertools.combinations.__iter__" ⟨[a], []⟩ := by
  unfold argsOk; rw [signature?_of (id := "itertools.combinations.__iter__") (n := ['_', '_', 'r', 'e', 't', 'i', '_', '_']) (o := ['s', 'n', 'o', 'i', 't', 'a', 'n', 'i', 'b', 'm', 'o', 'c', '.', 's', 'l', 'o', 'o', 't', 'r', 'e', 't', 'i']) (by kernel_rfl) owner_c]; kernel_rfl
theorem args_next (a : Value) : argsOk "itertools.combinations.__next__" ⟨[a], []⟩ := by
  unfold argsOk; rw [signature?_of (id := "itertools.combinations.__next__") (n := ['_', '_', 't', 'x', 'e', 'n', '_', '_']) (o := ['s', 'n', 'o', 'i', 't', 'a', 'n', 'i', 'b', 'm', 'o', 'c', '.', 's', 'l', 'o', 'o', 't', 'r', 'e', 't', 'i']) (by kernel_rfl) owner_c]; kernel_rfl
/-- a combinations object: its pool's tuple, its state, what it gave last, its indices -/
def combO (pool : Addr) (st : Int) (last : Value) (idx : List Nat) : Obj := { cls := .type "itertools.combinations", dict := none, data := .fields ([.ref pool, rawInt st, last] ++ idx.map fun i : Nat => (rawInt (i : Int) : Value)).toArray, slots := #[] }
theorem e_cls (a b : Value) : Builtin.Itertools.itClassAndRest "combinations" ⟨[.type "itertools.combinations", a, b], []⟩ = pure (.type "itertools.combinations", [a, b]) := by kernel_rfl
theorem e_bind (a b : Value) : Builtin.Itertools.itBindNamed "combinations" ["iterable", "r"] 2 2 [a, b] [] = pure [some a, some b] := by kernel_rfl
theorem e_idx (r : Int) (t : Tok) : asIndex (.int r t) = pure r := by kernel_rfl
section
variable {prog : Program} {w : World} {A : Around} {E : Value → Shared → Prop} {s : Shared}
theorem code_new {l : Addr} {vs : List Value} {r : Nat} {t : Tok} {Q₁ : Value → Shared → Prop} (hl : s.heap.IsList l vs.toArray) (hz : vs.length ≤ 1000) (hr : r ≤ vs.length)
    (h : ∀ (h' : Heap) (pool : Addr), (∀ b o, s.heap.get? b = some o → h'.get? b = some o) → s.heap.objs.size ≤ h'.objs.size → s.heap.objs.size ≤ pool → pool < h'.objs.size → h'.get? pool = some { cls := .type "tuple", data := .seq vs.toArray } →
      Q₁ (.ref h'.objs.size) { s with heap := h'.push (combO pool 0 .none (List.range r)) }) :
    codeAny (model prog w) A (.call (.builtin "itertools.combinations.__new__") ⟨[.type "itertools.combinations", .ref l, .int (r : Int) t], []⟩) (wants Q₁ E) s := by
  refine codeAny_of_tree ?_
  show wpAny _ A.in1 (do checkBuiltinCall "itertools.combinations.__new__" ⟨[.type "itertools.combinations", .ref l, .int (r : Int) t], []⟩; again (.builtin "itertools.combinations.__new__" ⟨[.type "itertools.combinations", .ref l, .int (r : Int) t], []⟩)) _ _ s
  refine wpAny_bind (wpAny_of_eq (newCall_2 _ _) (wpAny_pure ⟨plainId_quiet plain_new _, codeAny_builtin entry_new ?_⟩))
  rw [Around.under_plainId plain_new _]
  have hneg : ¬ ((r : Int) < 0) := by omega
  have hmany : ¬ (Builtin.Itertools.itTooMany (r : Int) = true) := by
    unfold Builtin.Itertools.itTooMany
    rw [decide_eq_true_eq]
    omega
  have hgt : ¬ (r > vs.length) := by omega
  have hbig : ¬ ((decide ((r : Int) < -2 ^ 63) || decide ((r : Int) ≥ 2 ^ 63)) = true) := by
    rw [Bool.or_eq_true, decide_eq_true_eq, decide_eq_true_eq]
    omega
  refine wpAny_bind ?_
  refine wpAny_bind (wpAny_of_eq (e_cls _ _) ?_)
  refine wpAny_bind (wpAny_of_eq (e_bind _ _) ?_)
  dsimp only
  refine wpAny_bind ?_
  refine wpAny_bind (wpAny_of_eq (e_idx _ _) ?_)
  dsimp only
  rw [if_neg hbig]
  refine wpAny_pure ?_
  refine wpAny_bind (PyProof.Rows.collect_list hl ?_ (by rw [sizeLine_eq]; omega))
  rw [if_neg hneg, if_neg hmany]
  simp only [newTuple]
  refine wpAny_bind (wpAny_newObj_type ?_ (by show vs.toArray.size ≤ sizeLine; rw [sizeLine_eq, List.size_toArray]; omega))
  refine wpAny_pure ?_
  dsimp only
  rw [Int.toNat_natCast, if_neg hgt]
  refine wpAny_bind ?_
  unfold Builtin.Itertools.itNewRecord
  rw [if_pos (by rw [noDict_c]; rfl)]
  refine wpAny_newObj_type ?_ (by show (List.toArray _).size ≤ sizeLine + 2; rw [sizeLine_eq, List.size_toArray]; simp; omega)
  refine wpAny_pure ?_
  have sz1 : (s.heap.push (PyProof.Rows.seqObj "list" #[] 0)).objs.size = s.heap.objs.size + 1 := Heap.size_push _ _
  have sz : ((s.heap.push (PyProof.Rows.seqObj "list" #[] 0)).update s.heap.objs.size (Obj.mapSeq (· ++ vs.toArray))).objs.size = s.heap.objs.size + 1 := by rw [Heap.size_update, sz1]
  have keep : ∀ b o, s.heap.get? b = some o → ((s.heap.push (PyProof.Rows.seqObj "list" #[] 0)).update s.heap.objs.size (Obj.mapSeq (· ++ vs.toArray))).get? b = some o := fun b o e =>
    (Heap.get?_update_other _ _ (Nat.ne_of_gt (Heap.lt_size e))).trans (Heap.get?_push_of_some _ e)
  refine h _ _ (fun b o e => Heap.get?_push_of_some _ (keep b o e)) ?_ ?_ ?_ (Heap.get?_push_size _ rfl)
  · rw [Heap.size_push, sz]; omega
  · rw [sz]; omega
  · rw [Heap.size_push]; exact Nat.lt_succ_self _
theorem call_comb {l : Addr} {vs : List Value} {r : Nat} {t : Tok} {Q : Value → Shared → Prop} (hl : s.heap.IsList l vs.toArray) (hz : vs.length ≤ 1000) (hr : r ≤ vs.length)
    (h : ∀ (h' : Heap) (pool : Addr), (∀ b o, s.heap.get? b = some o → h'.get? b = some o) → s.heap.objs.size ≤ h'.objs.size → s.heap.objs.size ≤ pool → pool < h'.objs.size → h'.get? pool = some { cls := .type "tuple", data := .seq vs.toArray } →
      Q (.ref h'.objs.size) { s with heap := h'.push (combO pool 0 .none (List.range r)) }) :
    wpAny (model prog w) A (call (.type "itertools.combinations") [.ref l, .int (r : Int) t]) Q E s := by
  refine callType_codes (Q₁ := fun obj s₁ => s₁.TypeIs obj "itertools.combinations" ∧ Q obj s₁) called_c (typeCall_2 _ _) F.entry_object_init
    (code_new (A := A.in1) hl hz hr fun h' pool k1 k2 k3 k4 k5 => ⟨⟨_, Heap.get?_push_size _ rfl, rfl⟩, h h' pool k1 k2 k3 k4 k5⟩) fun obj s₁ h₁ => ?_
  exact ⟨h₁.1, F.args_object_init_3 obj _ _, object_init_meets called_c.init.lookup called_c.made (by decide) prog w A.in1 _ s₁ ⟨h₁.1, rfl, h₁.2⟩⟩
theorem iter_comb {it pool : Addr} {st : Int} {last : Value} {idx : List Nat} {Q : Value → Shared → Prop} (hit : s.heap.get? it = some (combO pool st last idx)) (h : Q (.ref it) s) : wpAny (model prog w) A (pyIter (.ref it)) Q E s := by
  have hT : s.TypeIs (.ref it) "itertools.combinations" := ⟨_, hit, rfl⟩
  refine wpAny_pyIter_slot hT slot_iter (wpAny_call_entry slot_iter hT entry_iter ?_ (args_iter _))
  show wpAny _ _ (ret (.ref it)) _ _ s
  exact wpAny_pure ⟨_, rfl, "itertools.combinations", _, hT, slot_next.lookup, h⟩
theorem comb_numbers {it pool : Addr} {st : Int} {last : Value} {idx : List Nat} {Q : List Nat → Shared → Prop} (hit : s.heap.get? it = some (combO pool st last idx)) (h : Q idx s) : wpAny (model prog w) A (Builtin.Itertools.itNumbersFrom (.ref it) 3) Q E s := by
  unfold Builtin.Itertools.itNumbersFrom
  refine wpAny_bind (wpAny_load hit ?_)
  show wpAny _ _ (pure _) _ _ _
  refine wpAny_pure ?_
  have e : (List.map (fun x => match x with | .int n _ => n.toNat | _ => 0) (List.drop 3 (List.toArray ([Value.ref pool, rawInt st, last] ++ idx.map fun i : Nat => (rawInt (i : Int) : Value))).toList)) = idx := by
    rw [List.toList_toArray]
    show (List.map _ (idx.map fun i : Nat => (rawInt (i : Int) : Value))) = idx
    rw [List.map_map]
    have : ((fun x : Value => match x with | .int n _ => n.toNat | _ => 0) ∘ fun i : Nat => (rawInt (i : Int) : Value)) = id := by
      funext i
      show (i : Int).toNat = i
      rw [Int.toNat_natCast]
    rw [this, List.map_id]
  show Q (List.map (fun x => match x with | .int n _ => n.toNat | _ => 0) (List.drop 3 (List.toArray ([Value.ref pool, rawInt st, last] ++ idx.map fun i : Nat => (rawInt (i : Int) : Value))).toList)) s
  rw [e]
  exact h
theorem hint_comb {it pool : Addr} {st : Int} {last : Value} {idx : List Nat} {Q : Bool → Shared → Prop} (hit : s.heap.get? it = some (combO pool st last idx)) (h : Q true s) : wpAny (model prog w) A (Builtin.List.listLengthHint (.ref it)) Q E s := by
  have hT : s.TypeIs (.ref it) "itertools.combinations" := ⟨_, hit, rfl⟩
  unfold Builtin.List.listLengthHint
  refine wpAny_bind (wpAny_specialOf hT noLen ?_)
  wp_delta
  refine wpAny_ite_split (fun hab => absurd hab (by decide +kernel)) (fun _ => ?_)
  refine wpAny_ite_split (fun hab => absurd hab (by decide +kernel)) (fun _ => ?_)
  refine wpAny_bind (wpAny_specialOf hT noHint ?_)
  exact wpAny_pure h
/-- the next indices -/
def nextC (n : Nat) (indices : List Nat) : Option (List Nat) :=
  let r := indices.length
  match (List.range r).reverse.find? fun i => indices.getD i 0 != i + n - r with
  | none => none
  | some i => some (indices.take i ++ (List.range (r - i)).map (indices.getD i 0 + 1 + ·))
theorem comb_set1 {pool : Addr} {st : Int} {last : Value} {idx : List Nat} (x : Int) : (([Value.ref pool, rawInt st, last] ++ idx.map fun i : Nat => (rawInt (i : Int) : Value)).toArray).setIfInBounds 1 (rawInt x) = ([Value.ref pool, rawInt x, last] ++ idx.map fun i : Nat => (rawInt (i : Int) : Value)).toArray := by
  rw [List.setIfInBounds_toArray]
  rfl
theorem comb_set2 {pool : Addr} {st : Int} {last : Value} {idx : List Nat} (x : Value) : (([Value.ref pool, rawInt st, last] ++ idx.map fun i : Nat => (rawInt (i : Int) : Value)).toArray).setIfInBounds 2 x = ([Value.ref pool, rawInt st, x] ++ idx.map fun i : Nat => (rawInt (i : Int) : Value)).toArray := by
  rw [List.setIfInBounds_toArray]
  rfl
/-- the tuple of picked items -/
def picked (vs : List Value) (idx : List Nat) : List Value := idx.map fun i => vs.toArray.getD i .none
/-- hand out -/
theorem hand_out {it pool : Addr} {st : Int} {last : Value} {idx nxt : List Nat} {vs : List Value} {Q : Fin → Shared → Prop} (hit : s.heap.get? it = some (combO pool st last idx)) (hp : s.heap.get? pool = some { cls := .type "tuple", data := .seq vs.toArray }) (hz : nxt.length ≤ 1000)
    (hQ : ∀ h' t, (∀ b o, b ≠ it → s.heap.get? b = some o → h'.get? b = some o) → h'.get? it = some (combO pool st (.ref t) idx) → s.heap.objs.size ≤ t → h'.get? t = some { cls := .type "tuple", data := .seq (picked vs nxt).toArray } → Q (.done (.ret (.ref t))) { s with heap := h' }) :
    wpAny (model prog w) A (do
      let result ← (do
        let items ← Builtin.Itertools.itPoolItems (.ref pool)
        newTuple (nxt.map fun i => items.getD i .none))
      let before ← field (.ref it) 2
      setField (.ref it) 2 result
      letGo [before] [result]
      ret result) Q E s := by
  unfold Builtin.Itertools.itPoolItems
  refine wpAny_bind (wpAny_bind (wpAny_bind (wpAny_seqItems hp rfl ?_)))
  refine wpAny_pure ?_
  refine wpAny_newTuple ?_ (by rw [List.length_map, sizeLine_eq]; omega)
  have ne : it ≠ s.heap.objs.size := Nat.ne_of_lt (Heap.lt_size hit)
  have hit2 := Heap.get?_push_of_some { cls := Value.type "tuple", data := Data.seq (picked vs nxt).toArray } hit
  refine wpAny_bind (wpAny_field hit2 rfl (x := last) (by rw [List.getElem?_toArray]; rfl) ?_)
  refine wpAny_bind (wpAny_setField_rec hit2 (by rw [List.size_toArray]; simp) fun h' g1 g2 => ?_)
  refine wpAny_bind (wpAny_letGo ?_)
  refine wpAny_pure (hQ h' s.heap.objs.size (fun b o hb e => (g2.2 b hb).trans (Heap.get?_push_of_some _ e)) ?_ (Nat.le_refl _) ((g2.2 _ (Ne.symm ne)).trans (Heap.get?_push_size _ rfl)))
  rw [g1, comb_set2]
  rfl
theorem comb_item {it pool : Addr} {st : Int} {last : Value} {idx nxt : List Nat} {vs : List Value} {Q : Option Value → Shared → Prop} (hit : s.heap.get? it = some (combO pool st last idx)) (hp : s.heap.get? pool = some { cls := .type "tuple", data := .seq vs.toArray })
    (hst : (st = 0 ∧ nxt = idx) ∨ (st = 1 ∧ nextC vs.length idx = some nxt)) (hz : nxt.length ≤ 1000) (hpi : pool ≠ it)
    (hQ : ∀ h' t, (∀ b o, b ≠ it → s.heap.get? b = some o → h'.get? b = some o) → h'.get? it = some (combO pool 1 (.ref t) nxt) → s.heap.objs.size ≤ t → h'.get? t = some { cls := .type "tuple", data := .seq (picked vs nxt).toArray } → Q (some (.ref t)) { s with heap := h' }) :
    wpAny (model prog w) A (pyNext (.ref it)) Q E s := by
  have hT : s.TypeIs (.ref it) "itertools.combinations" := ⟨_, hit, rfl⟩
  unfold pyNext
  refine wpAny_bind (wpAny_attempt (wpAny_callSpecial?_slot (name := Str.ofString "__next__") hT slot_next (wpAny_call_entry slot_next hT entry_next ?_ (args_next _))))
  show wpAny _ _ (field (.ref it) 0 >>= _) _ _ s
  refine wpAny_bind (wpAny_field hit rfl (x := .ref pool) (by rw [List.getElem?_toArray]; rfl) ?_)
  refine wpAny_bind (comb_numbers hit ?_)
  refine wpAny_bind ?_
  unfold Builtin.Itertools.itIntField
  refine wpAny_bind (wpAny_field hit rfl (x := rawInt st) (by rw [List.getElem?_toArray]; rfl) (wpAny_pure ?_))
  rcases hst with ⟨rfl, rfl⟩ | ⟨rfl, hn⟩
  · show wpAny _ _ (setField (.ref it) 1 (rawInt 1) >>= _) _ _ s
    refine wpAny_bind (wpAny_setField_rec hit (by rw [List.size_toArray]; simp) fun h' g1 g2 => ?_)
    rw [comb_set1] at g1
    refine hand_out (s := { s with heap := h' }) (it := it) (st := 1) (idx := nxt) (last := last) g1 ((g2.2 _ hpi).trans hp) hz fun h2 t k1 k2 k3 k4 => ?_
    have sz : h'.objs.size = s.heap.objs.size := g2.1
    refine ⟨_, rfl, wpAny_pure (hQ h2 t (fun b o hb e => k1 b o hb ((g2.2 b hb).trans e)) k2 (by rw [← sz]; exact k3) k4)⟩
  · show wpAny _ _ (Builtin.Itertools.itPoolItems (.ref pool) >>= _) _ _ s
    unfold Builtin.Itertools.itPoolItems
    refine wpAny_bind (wpAny_bind (wpAny_seqItems hp rfl ?_))
    refine wpAny_pure ?_
    show wpAny _ _ (match nextC vs.toArray.size idx with | some next => _ | none => _) _ _ s
    rw [List.size_toArray, hn]
    show wpAny _ _ (Builtin.Itertools.itSetNumbersFrom (.ref it) 3 nxt >>= _) _ _ s
    unfold Builtin.Itertools.itSetNumbersFrom
    refine wpAny_bind ?_
    refine wpAny_updateFields hit rfl ?_ (by rw [Array.size_append, sizeLine_eq]; simp; omega)
    have g1 := Heap.get?_update_self (Obj.mapFields fun fs => fs.extract 0 3 ++ (List.map (fun n : Nat => rawInt (n : Int)) nxt).toArray) hit rfl
    have g2 := Heap.SameBut.update s.heap it (Obj.mapFields fun fs => fs.extract 0 3 ++ (List.map (fun n : Nat => rawInt (n : Int)) nxt).toArray)
    have e : (combO pool 1 last idx).mapFields (fun fs => fs.extract 0 3 ++ (List.map (fun n : Nat => rawInt (n : Int)) nxt).toArray) = combO pool 1 last nxt := by
      unfold combO Obj.mapFields
      simp
    rw [e] at g1
    generalize s.heap.update it (Obj.mapFields fun fs => fs.extract 0 3 ++ (List.map (fun n : Nat => rawInt (n : Int)) nxt).toArray) = h' at g1 g2 ⊢
    refine hand_out (s := { s with heap := h' }) (it := it) (st := 1) (idx := nxt) (last := last) g1 ((g2.2 _ hpi).trans hp) hz fun h2 t k1 k2 k3 k4 => ?_
    have sz : h'.objs.size = s.heap.objs.size := g2.1
    refine ⟨_, rfl, wpAny_pure (hQ h2 t (fun b o hb e => k1 b o hb ((g2.2 b hb).trans e)) k2 (by rw [← sz]; exact k3) k4)⟩
theorem comb_end {it pool : Addr} {last : Value} {idx : List Nat} {vs : List Value} {Q : Option Value → Shared → Prop} (hh : A.handled = none) (hit : s.heap.get? it = some (combO pool 1 last idx)) (hp : s.heap.get? pool = some { cls := .type "tuple", data := .seq vs.toArray })
    (hn : nextC vs.length idx = none) (hQ : ∀ h', (∀ b o, b ≠ it → s.heap.get? b = some o → h'.get? b = some o) → (∃ o, h'.get? it = some o) → Q none { s with heap := h' }) :
    wpAny (model prog w) A (pyNext (.ref it)) Q E s := by
  have hT : s.TypeIs (.ref it) "itertools.combinations" := ⟨_, hit, rfl⟩
  unfold pyNext
  refine wpAny_bind (wpAny_attempt (wpAny_callSpecial?_slot (name := Str.ofString "__next__") hT slot_next (wpAny_call_entry slot_next hT entry_next ?_ (args_next _))))
  show wpAny _ _ (field (.ref it) 0 >>= _) _ _ s
  refine wpAny_bind (wpAny_field hit rfl (x := .ref pool) (by rw [List.getElem?_toArray]; rfl) ?_)
  refine wpAny_bind (comb_numbers hit ?_)
  refine wpAny_bind ?_
  unfold Builtin.Itertools.itIntField
  refine wpAny_bind (wpAny_field hit rfl (x := rawInt 1) (by rw [List.getElem?_toArray]; rfl) (wpAny_pure ?_))
  show wpAny _ _ (Builtin.Itertools.itPoolItems (.ref pool) >>= _) _ _ s
  unfold Builtin.Itertools.itPoolItems
  refine wpAny_bind (wpAny_bind (wpAny_seqItems hp rfl ?_))
  refine wpAny_pure ?_
  show wpAny _ _ (match nextC vs.toArray.size idx with | some next => _ | none => _) _ _ s
  rw [List.size_toArray, hn]
  show wpAny _ _ (setField (.ref it) 1 (rawInt 2) >>= _) _ _ s
  refine wpAny_bind (wpAny_setField_rec hit (by rw [List.size_toArray]; simp) fun h' g1 g2 => ?_)
  show wpAny _ _ (newExc (.type "StopIteration") [] >>= _) _ _ _
  refine wpAny_bind ?_
  simp only [newExc, newTuple]
  refine wpAny_bind (wpAny_newObj_type ?_ (by size_fits))
  refine wpAny_bind (m := firstArgMember _ _) (wpAny_of_eq (a := Value.none) (by first | rfl | (simp only [firstArgMember]; rfl)) ?_)
  refine wpAny_newObj_type ?_ (by size_fits)
  simp only [raiseNew]
  refine wpAny_bind (wpAny_handled ?_)
  first | rw [show A.in1.handled = none from hh] | rw [hh]
  refine wpAny_bind (wpAny_pure (wpAny_throw ?_))
  refine wpAny_bind (wpAny_isInstance (T := "StopIteration") (b := true) ⟨_, Heap.get?_push_size _ rfl, rfl⟩ isSubtype_stop ?_)
  exact wpAny_pure (hQ _ (fun b o hb e => Heap.get?_push_of_some _ (Heap.get?_push_of_some _ ((g2.2 b hb).trans e))) ⟨_, Heap.get?_push_of_some _ (Heap.get?_push_of_some _ g1)⟩)
/-- all that follow, from the indices on (n: the pool's size) -/
inductive Runs (n : Nat) : List Nat → List (List Nat) → Prop
  | last {i : List Nat} : nextC n i = none → Runs n i [i]
  | more {i j : List Nat} {r : List (List Nat)} : nextC n i = some j → Runs n j r → Runs n i (i :: r)
/-- what the list holds: the tuples of the picked items -/
def IsPicks (h : Heap) (vs : List Value) (acc : List Value) (ls : List (List Nat)) : Prop := Paired (fun (l : List Nat) (v : Value) => ∃ t, v = .ref t ∧ h.get? t = some { cls := .type "tuple", data := .seq (picked vs l).toArray }) ls acc
theorem Paired.imp' {α β : Type} {F G : α → β → Prop} (f : ∀ a b, F a b → G a b) : ∀ {l : List α} {m : List β}, Paired F l m → Paired G l m
  | _, _, .nil => .nil
  | _, _, .cons h t => .cons (f _ _ h) (Paired.imp' f t)
theorem IsPicks.keep {h h' : Heap} {vs acc : List Value} {ls : List (List Nat)} {it S pool : Addr} {st : Int} {last : Value} {idx : List Nat} {o : Obj} (hit : h.get? it = some (combO pool st last idx)) (hS : h.get? S = some o) (ho : o.cls = .type "list") (k : ∀ b o, b ≠ it → b ≠ S → h.get? b = some o → h'.get? b = some o) (p : IsPicks h vs acc ls) : IsPicks h' vs acc ls := by
  refine Paired.imp' (fun l v hv => ?_) p
  obtain ⟨t, rfl, ht⟩ := hv
  refine ⟨t, rfl, k t _ (fun z => ?_) (fun z => ?_) ht⟩
  · rw [z, hit] at ht
    have q : Value.type "itertools.combinations" = Value.type "tuple" := congrArg Obj.cls (Option.some.inj ht)
    exact absurd (Value.type.inj q) (by decide)
  · rw [z, hS] at ht
    have q : o.cls = Value.type "tuple" := congrArg Obj.cls (Option.some.inj ht)
    rw [ho] at q
    exact absurd (Value.type.inj q) (by decide)
/-- the tuples' addresses rise, from lo on -/
def Asc (lo : Addr) (acc : List Value) : Prop := ∃ ts : List Addr, acc = ts.map Value.ref ∧ ts.Pairwise (· < ·) ∧ ∀ t ∈ ts, lo ≤ t
theorem Asc.snoc {lo t : Addr} {h : Heap} {vs acc : List Value} {ls : List (List Nat)} (a : Asc lo acc) (p : IsPicks h vs acc ls) (hlo : lo ≤ h.objs.size) (ht : h.objs.size ≤ t) : Asc lo (acc ++ [.ref t]) := by
  obtain ⟨ts, rfl, h1, h2⟩ := a
  refine ⟨ts ++ [t], by rw [List.map_append]; rfl, ?_, fun b hb => ?_⟩
  · rw [List.pairwise_append]
    refine ⟨h1, List.pairwise_singleton _ _, fun a ha b hb => ?_⟩
    rw [List.mem_singleton.mp hb]
    have key : ∀ {l : List (List Nat)} {m : List Value}, IsPicks h vs m l → Value.ref a ∈ m → a < h.objs.size := by
      intro l m q hm
      induction q with
      | nil => cases hm
      | cons hv _ ih =>
        rcases List.mem_cons.mp hm with e | e
        · obtain ⟨t, e1, e2⟩ := hv
          rw [e1] at e
          injection e with e
          rw [e]
          exact Heap.lt_size e2
        · exact ih e
    exact Nat.lt_of_lt_of_le (key p (List.mem_map.mpr ⟨a, ha, rfl⟩)) ht
  · rcases List.mem_append.mp hb with q | q
    · exact h2 b q
    · rw [List.mem_singleton.mp q]
      exact Nat.le_trans hlo ht
/-- what comes from a state -/
def Comes (n : Nat) (st : Int) (idx : List Nat) (rest : List (List Nat)) : Prop := (st = 0 ∧ Runs n idx rest) ∨ (st = 1 ∧ ((rest = [] ∧ nextC n idx = none) ∨ ∃ j, nextC n idx = some j ∧ Runs n j rest))
theorem Comes.of_runs {n : Nat} {l : List Nat} {r : List (List Nat)} {i : List Nat} (h : Runs n i (l :: r)) : l = i ∧ Comes n 1 l r := by
  cases h with
  | last hn => exact ⟨rfl, .inr ⟨rfl, .inl ⟨rfl, hn⟩⟩⟩
  | more hn hr => exact ⟨rfl, .inr ⟨rfl, .inr ⟨_, hn, hr⟩⟩⟩
theorem Comes.cons {n : Nat} {st : Int} {idx l : List Nat} {r : List (List Nat)} (h : Comes n st idx (l :: r)) : ((st = 0 ∧ l = idx) ∨ (st = 1 ∧ nextC n idx = some l)) ∧ Comes n 1 l r := by
  rcases h with ⟨rfl, h⟩ | ⟨rfl, ⟨e, _⟩ | ⟨j, hj, h⟩⟩
  · obtain ⟨rfl, c⟩ := Comes.of_runs h
    exact ⟨.inl ⟨rfl, rfl⟩, c⟩
  · cases e
  · obtain ⟨rfl, c⟩ := Comes.of_runs h
    exact ⟨.inr ⟨rfl, hj⟩, c⟩
theorem Comes.nil {n : Nat} {st : Int} {idx : List Nat} (h : Comes n st idx []) : st = 1 ∧ nextC n idx = none := by
  rcases h with ⟨_, h⟩ | ⟨rfl, ⟨_, h⟩ | ⟨j, _, h⟩⟩
  · cases h
  · exact ⟨rfl, h⟩
  · cases h
theorem extend_loop {R : Result → Shared → Prop} {pool S : Addr} {vs : List Value} {res : Value} (hh : A.handled = none) (it lo : Addr) (hSi : S ≠ it) (hSp : S ≠ pool) (hpi : pool ≠ it) (rest : List (List Nat)) :
    ∀ (s : Shared) (acc : List Value) (c : Nat) (done : List (List Nat)) (st : Int) (last : Value) (idx : List Nat), s.heap.get? it = some (combO pool st last idx) → s.heap.get? pool = some { cls := .type "tuple", data := .seq vs.toArray } →
      s.heap.get? S = some { cls := .type "list", dict := none, data := .seq acc.toArray c, slots := #[] } → IsPicks s.heap vs acc done → acc.length + rest.length ≤ 10000 → (∀ l ∈ rest, l.length ≤ 1000) → Comes vs.length st idx rest → Asc lo acc → lo ≤ s.heap.objs.size →
      (∀ h' acc' c', (∀ b o, b ≠ it → b ≠ S → s.heap.get? b = some o → h'.get? b = some o) → h'.get? S = some { cls := .type "list", dict := none, data := .seq acc'.toArray c', slots := #[] } → IsPicks h' vs acc' (done ++ rest) → Asc lo acc' → (∃ o, h'.get? it = some o) → R (.ok (.ret res)) { s with heap := h' }) →
      codeAny (model prog w) A (.builtin "list.extend.loop" ⟨[.ref S, .ref it, res], []⟩) R s := by
  induction rest with
  | nil =>
    intro s acc c done st last idx hit hp hS hacc hz hl hst asc hlo hR
    obtain ⟨rfl, hn⟩ := hst.nil
    refine codeAny_builtin F.entry_extend_loop ?_
    rw [Around.under_plainId F.plain_extend_loop _]
    show wpAny _ A.in1 (pyNext (.ref it) >>= _) _ _ s
    refine wpAny_bind (comb_end (A := A.in1) hh hit hp hn fun h' k1 k2 => ?_)
    refine wpAny_pure (hR h' acc c (fun b o hb _ e => k1 b o hb e) (k1 S _ hSi hS) ?_ asc k2)
    rw [List.append_nil]
    exact IsPicks.keep hit hS rfl (fun b o hb _ e => k1 b o hb e) hacc
  | cons l rest ih =>
    intro s acc c done st last idx hit hp hS hacc hz hl hst asc hlo hR
    obtain ⟨hnx, hc⟩ := hst.cons
    refine codeAny_builtin F.entry_extend_loop ?_
    rw [Around.under_plainId F.plain_extend_loop _]
    show wpAny _ A.in1 (pyNext (.ref it) >>= _) _ _ s
    refine wpAny_bind (comb_item hit hp hnx (hl l List.mem_cons_self) hpi fun h' t k1 k2 k3 k4 => ?_)
    have hS' := k1 S _ hSi hS
    have hSt : S ≠ t := Nat.ne_of_lt (Nat.lt_of_lt_of_le (Heap.lt_size hS) k3)
    show wpAny _ A.in1 (updateSeq S (·.push (.ref t)) >>= _) _ _ _
    refine wpAny_bind ?_
    have hlen : acc.length + rest.length + 1 ≤ 10000 := by rw [List.length_cons] at hz; omega
    have g := Heap.get?_update_self (Obj.mapSeq (·.push (Value.ref t))) hS' rfl
    have g2 := Heap.SameBut.update h' S (Obj.mapSeq (·.push (Value.ref t)))
    obtain ⟨c2, g⟩ : ∃ c2, (h'.update S (Obj.mapSeq (·.push (Value.ref t)))).get? S = some { cls := .type "list", dict := none, data := .seq (acc ++ [Value.ref t]).toArray c2, slots := #[] } := by
      have e : (acc ++ [Value.ref t]).toArray = acc.toArray.push (.ref t) := by simp
      rw [e]
      exact ⟨_, g⟩
    refine wpAny_updateSeq hS' rfl (wpAny_pure ⟨plainId_quiet F.plain_extend_loop _, ih _ (acc ++ [.ref t]) c2 (done ++ [l]) 1 (.ref t) l ((g2.2 it (Ne.symm hSi)).trans k2) ((g2.2 pool (Ne.symm hSp)).trans (k1 pool _ hpi hp)) g ?_ ?_ (fun l' hl' => hl l' (List.mem_cons_of_mem _ hl')) hc (asc.snoc hacc hlo k3) (by rw [g2.1]; exact Nat.le_trans hlo (Nat.le_trans k3 (Nat.le_of_lt (Heap.lt_size k4)))) fun h2 acc' c' m1 m2 m3 m4 m5 => ?_⟩)
      (by rw [List.size_toArray, sizeLine_eq]; omega) (by show (acc.toArray.push _).size ≤ sizeLine + 1; rw [Array.size_push, List.size_toArray, sizeLine_eq]; omega)
    · have p1 : IsPicks h' vs acc done := IsPicks.keep hit hS rfl (fun b o hb _ e => k1 b o hb e) hacc
      have p2 : IsPicks (h'.update S (Obj.mapSeq (·.push (Value.ref t)))) vs acc done := IsPicks.keep k2 hS' rfl (fun b o _ hb e => (g2.2 b hb).trans e) p1
      exact Paired.snoc p2 ⟨t, rfl, (g2.2 t (Ne.symm hSt)).trans k4⟩
    · rw [List.length_append, List.length_cons, List.length_nil]
      omega
    · rw [List.append_assoc] at m3
      exact hR h2 acc' c' (fun b o hb hb2 e => m1 b o hb hb2 ((g2.2 b hb2).trans (k1 b o hb e))) m2 m3 m4 m5
theorem init_list_comb {R : Result → Shared → Prop} {it pool S : Addr} {vs : List Value} {last : Value} {idx : List Nat} {ls : List (List Nat)} (hh : A.handled = none) (hit : s.heap.get? it = some (combO pool 0 last idx)) (hp : s.heap.get? pool = some { cls := .type "tuple", data := .seq vs.toArray }) (hpi : pool ≠ it)
    (hS : s.heap.get? S = some { cls := .type "list", data := .seq #[] }) (hSi : S ≠ it) (hSp : S ≠ pool) (hr : Runs vs.length idx ls) (hz : ls.length ≤ 10000) (hl : ∀ l ∈ ls, l.length ≤ 1000)
    (hQ : ∀ h' acc c', (∀ b o, b ≠ it → b ≠ S → s.heap.get? b = some o → h'.get? b = some o) → h'.get? S = some { cls := .type "list", dict := none, data := .seq acc.toArray c', slots := #[] } → IsPicks h' vs acc ls → Asc s.heap.objs.size acc → (∃ o, h'.get? it = some o) → R (.ok (.ret .none)) { s with heap := h' }) :
    wpAny (model prog w) A.in1 (Builtin.«list.__init__» ⟨[.ref S, .ref it], []⟩)
      (fun fin s' => match fin with | .done f => R (.ok f) s' | .again c' => c'.quiet = true ∧ codeAny (model prog w) A c' R s') (fun e s' => R (.error e) s') s := by
  show wpAny _ _ (do let old ← Builtin.List.listItems (.ref S); Builtin.List.listUpdate (.ref S) (fun _ => #[]); letGo old.toList.reverse; Builtin.List.listExtendWith (.ref S) (.ref it) .none) _ _ s
  refine wpAny_bind ?_
  unfold Builtin.List.listItems
  refine wpAny_bind (wpAny_seqItems hS rfl (wpAny_pure ?_))
  show wpAny _ _ (updateSeq S (fun _ => #[]) >>= fun _ => letGo (#[] : Array Value).toList.reverse >>= fun _ => Builtin.List.listExtendWith (.ref S) (.ref it) .none) _ _ s
  refine wpAny_bind (wpAny_updateSeq hS rfl ?_)
  have hS₂ := Heap.get?_update_self (Obj.mapSeq (fun _ => (#[] : Array Value))) hS rfl
  have oth : ∀ b o, b ≠ S → s.heap.get? b = some o → (s.heap.update S (Obj.mapSeq (fun _ => (#[] : Array Value)))).get? b = some o :=
    fun b o hb e => (Heap.get?_update_other _ _ (Ne.symm hb)).trans e
  refine wpAny_bind (wpAny_letGo ?_)
  have hit2 := oth it _ (Ne.symm hSi) hit
  have hp2 := oth pool _ (Ne.symm hSp) hp
  have sz2 : (s.heap.update S (Obj.mapSeq (fun _ => (#[] : Array Value)))).objs.size = s.heap.objs.size := Heap.size_update _ _ _
  generalize s.heap.update S (Obj.mapSeq (fun _ => (#[] : Array Value))) = H2 at hS₂ oth hit2 hp2 sz2 ⊢
  have hT : ({ s with heap := H2 } : Shared).TypeIs (.ref it) "itertools.combinations" := ⟨_, hit2, rfl⟩
  unfold Builtin.List.listExtendWith
  refine wpAny_bind (wpAny_typeOf (T := "itertools.combinations") hT ?_)
  have h1 : Builtin.List.listSameRef (.ref S) (.ref it) = false := by simp [Builtin.List.listSameRef, hSi]
  have h2 : (Value.type "itertools.combinations" == Value.type "list") = false := by decide
  have h3 : (Value.type "itertools.combinations" == Value.type "tuple") = false := by decide
  simp only [h1, h2, h3, Bool.or_false, Bool.false_eq_true, if_false]
  refine wpAny_bind (iter_comb hit2 ?_)
  refine wpAny_bind (wpAny_holding (hint_comb hit2 ?_))
  refine wpAny_ite_split (fun _ => ?_) (fun z => absurd (by simp) z)
  refine wpAny_bind (wpAny_rule ?_)
  refine wpAny_bind ?_
  show wpAny _ _ (updateSeq S (·.push .none) >>= fun _ => updateSeq S (·.pop)) _ _ _
  refine wpAny_bind (wpAny_updateSeq hS₂ rfl ?_)
  have hS₃ := Heap.get?_update_self (Obj.mapSeq (·.push Value.none)) hS₂ rfl
  refine wpAny_updateSeq (hz := by seq_fits) hS₃ rfl ?_
  have hS₄ := Heap.get?_update_self (Obj.mapSeq (·.pop)) hS₃ rfl
  have oth2 : ∀ b o, b ≠ S → H2.get? b = some o → ((H2.update S (Obj.mapSeq (·.push Value.none))).update S (Obj.mapSeq (·.pop))).get? b = some o :=
    fun b o hb e => (Heap.get?_update_other _ _ (Ne.symm hb)).trans ((Heap.get?_update_other _ _ (Ne.symm hb)).trans e)
  have sz3 : ((H2.update S (Obj.mapSeq (·.push Value.none))).update S (Obj.mapSeq (·.pop))).objs.size = s.heap.objs.size := by rw [Heap.size_update, Heap.size_update, sz2]
  generalize (H2.update S (Obj.mapSeq (·.push Value.none))).update S (Obj.mapSeq (·.pop)) = H3 at hS₄ oth2 sz3 ⊢
  refine wpAny_pure ⟨plainId_quiet PySem.F.plain_extend_loop _, extend_loop (s := { s with heap := H3 }) hh it s.heap.objs.size hSi hSp hpi ls [] _ [] 0 last idx (oth2 it _ (Ne.symm hSi) hit2) (oth2 pool _ (Ne.symm hSp) hp2) hS₄ .nil (by simpa using hz) hl (.inl ⟨rfl, hr⟩) ⟨[], rfl, .nil, fun _ h => nomatch h⟩ (Nat.le_of_eq sz3.symm) fun h' acc' c' k1 k2 k3 k4 k5 => ?_⟩
  exact hQ h' acc' c' (fun b o hb hb2 e => k1 b o hb hb2 (oth2 b o hb2 (oth b o hb2 e))) k2 (by simpa using k3) k4 k5
/-- list(it), it a combinations object -/
theorem call_list_comb {it pool : Addr} {vs : List Value} {last : Value} {idx : List Nat} {ls : List (List Nat)} {Q : Value → Shared → Prop} (hh : A.handled = none) (hit : s.heap.get? it = some (combO pool 0 last idx)) (hp : s.heap.get? pool = some { cls := .type "tuple", data := .seq vs.toArray }) (hpi : pool ≠ it)
    (hr : Runs vs.length idx ls) (hz : ls.length ≤ 10000) (hl : ∀ l ∈ ls, l.length ≤ 1000)
    (hQ : ∀ h' acc c', (∀ b o, b ≠ it → s.heap.get? b = some o → h'.get? b = some o) → h'.get? s.heap.objs.size = some { cls := .type "list", dict := none, data := .seq acc.toArray c', slots := #[] } → IsPicks h' vs acc ls → Asc (s.heap.objs.size + 1) acc → (∃ o, h'.get? it = some o) → Q (.ref s.heap.objs.size) { s with heap := h' }) :
    wpAny (model prog w) A (call (.type "list") [.ref it]) Q E s := by
  refine callType_codes (Q₁ := fun obj s₁ => obj = .ref s.heap.objs.size ∧ s₁ = { s with heap := s.heap.push { cls := .type "list", data := .seq #[] } }) PySem.F.called_list (PySem.F.typeCall_list_1 _) PySem.F.entry_list_init
    (code_list_new _ ⟨rfl, rfl⟩) fun obj s₁ h₁ => ?_
  obtain ⟨rfl, rfl⟩ := h₁
  have hS : (s.heap.push { cls := .type "list", data := .seq #[] }).get? s.heap.objs.size = some { cls := .type "list", data := .seq #[] } := Heap.get?_push_size _ rfl
  have hSi : s.heap.objs.size ≠ it := Nat.ne_of_gt (Heap.lt_size hit)
  have hSp : s.heap.objs.size ≠ pool := Nat.ne_of_gt (Heap.lt_size hp)
  refine ⟨⟨_, hS, rfl⟩, PySem.F.args_list_init_2 _ _, ?_⟩
  have hit1 := Heap.get?_push_of_some { cls := Value.type "list", data := Data.seq #[] } hit
  have hp1 := Heap.get?_push_of_some { cls := Value.type "list", data := Data.seq #[] } hp
  refine init_list_comb (A := A.in1) hh hit1 hp1 hpi hS hSi hSp hr hz hl fun h' acc c' k1 k2 k3 k4 k5 => ?_
  rw [show ({ s with heap := s.heap.push { cls := .type "list", data := .seq #[] } } : Shared).heap.objs.size = s.heap.objs.size + 1 from Heap.size_push _ _] at k4
  exact ⟨rfl, hQ h' acc c' (fun b o hb e => k1 b o hb (Nat.ne_of_lt (Heap.lt_size e)) (Heap.get?_push_of_some _ e)) k2 k3 k4 k5⟩
end
end SptC

set_option Elab.async false
set_option linter.all false
set_option maxRecDepth 100000
set_option maxHeartbeats 4000000
/-! list(combinations(xs, r)) over the layer -/
namespace Spt
open PySem PySem.Spec PyProof.Rows L2 SptC
/-- many new objects -/
def ov (H N : Hp) : Hp := fun b => match N b with
  | some o => some o
  | none => H b
theorem ov_new {H N : Hp} {b : Addr} {o : HO} (h : N b = some o) : ov H N b = some o := by
  unfold ov
  rw [h]
theorem ov_old {H N : Hp} {b : Addr} (h : N b = none) : ov H N b = H b := by
  unfold ov
  rw [h]
theorem laidMany {X : Cx} {pins : List (Addr × Obj)} {σ : L2.St} {H N : Hp} {s : Shared} {h' : Heap} {t' : Nat} (I : Inv X pins σ H s) (k : ∀ b o, s.heap.get? b = some o → h'.get? b = some o) (hN : ∀ a o, N a = some o → s.heap.objs.size ≤ a)
    (new : ∀ a o, N a = some o → ObjOk X.prog X.w (ov H N) h' a o) : Inv X pins σ (ov H N) { s with heap := h', toks := t' } := by
  have lt : ∀ {b : Addr} {o : HO}, H b = some o → N b = none := fun {b o} e => by
    cases q : N b with
    | none => rfl
    | some u => exact absurd (Nat.lt_of_lt_of_le (I.hok.lt e) (hN b u q)) (Nat.lt_irrefl _)
  have lt2 : ∀ {b : Addr} {o : Obj}, s.heap.get? b = some o → N b = none := fun {b o} e => by
    cases q : N b with
    | none => rfl
    | some u => exact absurd (Nat.lt_of_lt_of_le (Heap.lt_size e) (hN b u q)) (Nat.lt_irrefl _)
  have ho : ∀ {b : Addr} {o : HO}, H b = some o → ov H N b = some o := fun {b o} e => by rw [ov_old (lt e)]; exact e
  refine I.un (t' := t') ⟨fun b o q _ _ _ => k b o q, fun b o q _ _ _ => ⟨_, k b o q⟩, fun b o q n _ => by rw [ov_old (lt2 q)]; exact n, fun b o q _ => ⟨_, k b o q⟩, fun b xs q => ho q, fun b o u q => ho q, fun b ps q => ⟨#[], by rw [ho q]; simp⟩⟩ fun b u e => ?_
  cases q : N b with
  | some o =>
    rw [ov_new q] at e
    cases e
    exact new b _ q
  | none =>
    rw [ov_old q] at e
    exact (I.hok b u e).stay (fun c v _ z => k c v z) (fun c z => ho z) fun c xs z => ho z
section
variable {X : Cx} {a b e : Expr} {ta tb : TE} {p pos : Pos}
/-- an expression that makes a combinations object -/
def PCo (X : Cx) (e : Expr) (t : L2.St → Hp → (List V → Nat → Hp → Prop) → Prop) : Prop :=
  ∀ (pins : List (Addr × Obj)) (s : Shared) (σ : L2.St) (H : Hp) (Q : List V → Nat → Hp → Prop), Inv X pins σ H s → t σ H Q →
    wpAny (model X.prog X.w) X.A (eval e X.env) (fun x s' => ∃ (it pool : Addr) (vs : List Value) (ns : List V) (r : Nat) (H' : Hp) (s2 : Shared) (h' : Heap) (tk : Nat), x = .ref it ∧ s' = { s2 with heap := h', toks := tk } ∧ s2.heap.objs.size ≤ it ∧ (∀ b o, s2.heap.get? b = some o → h'.get? b = some o) ∧
      h'.get? it = some (combO pool 0 .none (List.range r)) ∧ h'.get? pool = some { cls := .type "tuple", data := .seq vs.toArray } ∧ pool ≠ it ∧ L2.Vals ns vs ∧ ns.length ≤ 1000 ∧ Inv X pins σ H' s2 ∧ Q ns r H') X.xe s
def tCo (K : PySem.W.Frag) (ta tb : TE) : L2.St → Hp → (List V → Nat → Hp → Prop) → Prop := fun σ H Q => ta σ H fun x H1 => tb σ H1 fun y H2 => ∃ (l : Addr) (ns : List V) (r : Nat), x = .ref l ∧ y = .int (r : Int) ∧ SqL K H2 l ns ∧ ns.length ≤ 1000 ∧ r ≤ ns.length ∧ Q ns r H2
theorem pco (hg : Gl X "combinations") (hm : X.mg "combinations" = some (.type "itertools.combinations")) (ha : PE X a ta) (hb : PE X b tb) (na : starEach [a, b] X.env = (false, eval a X.env) :: starEach [b] X.env := by rfl)
    (nb : starEach [b] X.env = (false, eval b X.env) :: starEach [] X.env := by rfl) (hp : (backTo pos (starEach [b] X.env)).any (·.1) = false := by rfl) : PCo X (.Call (.Name "combinations" p) [a, b] [] pos) (tCo X.K ta tb) := by
  intro pins s σ H Q I h
  refine Call_ (ld_glob I hg hm (PyProof.Rows.callWith_type1 (args_cons (thn (ha.run pins s σ H _ I h) fun v s1 ⟨x, H1, I1, r1, q1⟩ => one_arg hb I1 q1 (fun u s2 y H2 I2 r2 q => ?_) nb) na) na hp))
  obtain ⟨l, ns, r, rfl, rfl, hl, hz, hr, q⟩ := q
  obtain rfl : v = .ref l := r1
  obtain ⟨t, rfl⟩ := r2
  obtain ⟨its, rv, pl, _⟩ := I2.list hl
  have len := rv.length
  refine call_comb (r := r) pl.isList (by omega) (by omega) fun h' pool k1 k2 k3 k4 k5 => ?_
  exact ⟨h'.objs.size, pool, its, ns, r, H2, s2, _, s2.toks, rfl, rfl, k2, fun b o e => Heap.get?_push_of_some _ (k1 b o e), Heap.get?_push_size _ rfl, Heap.get?_push_of_some _ k5, Nat.ne_of_lt k4, rv, hz, I2, q⟩
/-- the tuples of the picked -/
def pickV (ns : List V) (l : List Nat) : List V := l.map fun i => ns.getD i .non
def tLstCo (K : PySem.W.Frag) (t : L2.St → Hp → (List V → Nat → Hp → Prop) → Prop) : TE := fun σ H Q => t σ H fun ns r H1 => ∃ ls, Runs ns.length (List.range r) ls ∧ ls.length ≤ 10000 ∧ (∀ l ∈ ls, l.length ≤ 1000 ∧ ∀ i ∈ l, i < ns.length) ∧
  ∀ (H2 : Hp) (D : Addr) (as : List Addr), Same H1 H2 → H1 D = none → H2 D = some (.lst (as.map V.ref)) → Paired (fun (l : List Nat) (b : Addr) => H2 b = some (.tup (pickV ns l)) ∧ H1 b = none) ls as → Q (.ref D) H2
theorem vals_picked {ns : List V} {vs : List Value} (r : L2.Vals ns vs) : ∀ {l : List Nat}, (∀ i ∈ l, i < ns.length) → L2.Vals (pickV ns l) (picked vs l)
  | [], _ => .nil
  | i :: l, h => by
    have hi := h i List.mem_cons_self
    have hl := r.length
    refine .cons ?_ (vals_picked r fun j hj => h j (List.mem_cons_of_mem _ hj))
    obtain ⟨u, h1, h2⟩ := r.get (i := i) (x := ns[i]) (List.getElem?_eq_getElem hi)
    have e1 : ns.getD i .non = ns[i] := by rw [List.getD_eq_getElem?_getD, List.getElem?_eq_getElem hi]; rfl
    have e2 : vs.toArray.getD i .none = u := by
      rw [Array.getD_eq_getD_getElem?, List.getElem?_toArray, h1]
      rfl
    show L2.RelV (ns.getD i .non) (vs.toArray.getD i .none)
    rw [e1, e2]
    exact h2
theorem lookup_zip {α : Type} : ∀ {as : List Addr} {xs : List α} {j : Nat} {a : Addr} {x : α}, as.Pairwise (· < ·) → as[j]? = some a → xs[j]? = some x → (as.zip xs).lookup a = some x
  | [], _, j, a, x, _, h, _ => by simp at h
  | _ :: _, [], j, a, x, _, _, h => by simp at h
  | b :: as, y :: xs, 0, a, x, _, h1, h2 => by
    simp only [List.getElem?_cons_zero, Option.some.injEq] at h1 h2
    subst h1 h2
    simp [List.lookup]
  | b :: as, y :: xs, j + 1, a, x, hp, h1, h2 => by
    have h1 : as[j]? = some a := by simpa using h1
    have h2 : xs[j]? = some x := by simpa using h2
    obtain ⟨hb, hp⟩ := List.pairwise_cons.mp hp
    have : b < a := hb a (List.mem_of_getElem? h1)
    have e : (a == b) = false := by
      rw [beq_eq_false_iff_ne]
      exact Nat.ne_of_gt this
    show (match a == b with | true => some y | false => (as.zip xs).lookup a) = some x
    rw [e]
    exact lookup_zip hp h1 h2
theorem lookup_zip_mem {α : Type} : ∀ {as : List Addr} {xs : List α} {a : Addr} {x : α}, (as.zip xs).lookup a = some x → ∃ j : Nat, as[j]? = some a ∧ xs[j]? = some x
  | [], _, a, x, h => by simp at h
  | _ :: _, [], a, x, h => by simp at h
  | b :: as, y :: xs, a, x, h => by
    have h : (match a == b with | true => some y | false => (as.zip xs).lookup a) = some x := h
    cases e : a == b with
    | true =>
      rw [e] at h
      injection h with h
      exact ⟨0, by rw [beq_iff_eq.mp e]; rfl, by rw [h]; rfl⟩
    | false =>
      rw [e] at h
      obtain ⟨j, h1, h2⟩ := lookup_zip_mem h
      exact ⟨j + 1, by simpa using h1, by simpa using h2⟩
theorem pe_listCo {t : L2.St → Hp → (List V → Nat → Hp → Prop) → Prop} (hc : X.calm = true) (hg : Gl X "list") (hm : X.mg "list" = none) (he : PCo X e t) (na : starEach [e] X.env = (false, eval e X.env) :: starEach [] X.env := by rfl) :
    PE X (.Call (.Name "list" p) [e] [] pos) (tLstCo X.K t) := by
  refine ⟨fun pins s σ H Q I h => ?_⟩
  refine Call_ (ld_blt I hg hm boot_list (PyProof.Rows.callWith_type1 (args_cons (thn (he pins s σ H _ I h) fun x s1 ⟨it, pool, vs, ns, r, H1, s2, h1, tk, ex, es, k1, k2, k3, k4, k5, rv, hz, I1, ls, hr, hl1, hl2, q⟩ => args_nil ?_) na) na))
  subst ex es
  have len := rv.length
  have hh := I1.ok.hd hc
  refine call_list_comb (s := { s2 with heap := h1, toks := tk }) hh k3 k4 k5 (by rw [← len]; exact hr) hl1 (fun l hl => (hl2 l hl).1) fun h' acc c' m1 m2 m3 m4 m5 => ?_
  obtain ⟨as, rfl, asc, lo⟩ := m4
  have keep : ∀ b o, s2.heap.get? b = some o → h'.get? b = some o := fun b o e => m1 b o (Nat.ne_of_lt (Nat.lt_of_lt_of_le (Heap.lt_size e) k1)) (k2 b o e)
  have sz : s2.heap.objs.size ≤ h1.objs.size := Nat.le_trans k1 (Nat.le_of_lt (Heap.lt_size k3))
  have lo : ∀ t ∈ as, h1.objs.size + 1 ≤ t := lo
  -- what is laid: the list, the tuples
  let N : Hp := fun b => if b = h1.objs.size then some (.lst (as.map V.ref)) else (as.zip (ls.map fun l => HO.tup (pickV ns l))).lookup b
  have neD : ∀ b ∈ as, b ≠ h1.objs.size := fun b hb => Nat.ne_of_gt (lo b hb)
  have N1 : N h1.objs.size = some (.lst (as.map V.ref)) := if_pos rfl
  have m3' : Paired (fun (l : List Nat) (b : Addr) => h'.get? b = some { cls := .type "tuple", data := .seq (picked vs l).toArray }) ls as := by
    have key : ∀ {ls : List (List Nat)} {as : List Addr}, IsPicks h' vs (as.map Value.ref) ls → Paired (fun (l : List Nat) (b : Addr) => h'.get? b = some { cls := .type "tuple", data := .seq (picked vs l).toArray }) ls as := by
      intro ls
      induction ls with
      | nil =>
        intro as q
        cases as with
        | nil => exact .nil
        | cons a as => cases q
      | cons l ls ih =>
        intro as q
        cases as with
        | nil => cases q
        | cons a as =>
          cases q with
          | cons hv hq =>
            obtain ⟨t, e1, e2⟩ := hv
            injection e1 with e1
            rw [e1]
            exact .cons e2 (ih hq)
    exact key m3
  have N2 : Paired (fun (l : List Nat) (b : Addr) => N b = some (.tup (pickV ns l))) ls as := by
    have key : ∀ (j : Nat) (l : List Nat) (b : Addr), ls[j]? = some l → as[j]? = some b → N b = some (.tup (pickV ns l)) := fun j l b e1 e2 => by
      show (if b = h1.objs.size then _ else _) = _
      rw [if_neg (neD b (List.mem_of_getElem? e2))]
      exact lookup_zip asc e2 (by rw [List.getElem?_map, e1]; rfl)
    have gen : ∀ {F : Nat → Prop} {ls : List (List Nat)} {as : List Addr} {G : List Nat → Addr → Prop} {R : List Nat → Addr → Prop}, Paired G ls as → (∀ (j : Nat) (l : List Nat) (b : Addr), ls[j]? = some l → as[j]? = some b → R l b) → Paired R ls as := by
      intro F ls as G R h
      induction h with
      | nil => intro _; exact .nil
      | cons _ _ ih => intro f; exact .cons (f 0 _ _ rfl rfl) (ih fun j l b e1 e2 => f (j + 1) l b (by simpa using e1) (by simpa using e2))
    exact gen (F := fun _ => True) m3' key
  have hN : ∀ b o, N b = some o → s2.heap.objs.size ≤ b := fun b o e => by
    have e : (if b = h1.objs.size then some (HO.lst (as.map V.ref)) else (as.zip (ls.map fun l => HO.tup (pickV ns l))).lookup b) = some o := e
    by_cases hb : b = h1.objs.size
    · rw [hb]; exact sz
    · rw [if_neg hb] at e
      obtain ⟨j, e1, _⟩ := lookup_zip_mem e
      have := lo b (List.mem_of_getElem? e1)
      omega
  have J : Inv X pins σ (ov H1 N) { s2 with heap := h', toks := tk } := laidMany I1 keep hN fun b o e => by
    have e : (if b = h1.objs.size then some (HO.lst (as.map V.ref)) else (as.zip (ls.map fun l => HO.tup (pickV ns l))).lookup b) = some o := e
    by_cases hb : b = h1.objs.size
    · rw [if_pos hb] at e
      cases e
      refine ⟨?_, as.map Value.ref, c', vals_refs as, by rw [hb]; exact m2⟩
      rw [List.length_map, ← Paired.len m3', sizeLine_eq]
      omega
    · rw [if_neg hb] at e
      obtain ⟨j, e1, e2⟩ := lookup_zip_mem e
      rw [List.getElem?_map] at e2
      obtain ⟨l, e3, rfl⟩ := Option.map_eq_some_iff.mp e2
      obtain ⟨b', e4, e5⟩ := Paired.get m3' e3
      rw [e1] at e4
      cases e4
      have hl := hl2 l (List.mem_of_getElem? e3)
      refine ⟨?_, picked vs l, vals_picked rv hl.2, _, e5, rfl, _, rfl⟩
      unfold pickV
      rw [List.length_map, sizeLine_eq]
      omega
  have fresh : ∀ b o, N b = some o → H1 b = none := fun b o e => I1.hok.fresh (hN b o e)
  refine ⟨.ref h1.objs.size, ov H1 N, J, rfl, q (ov H1 N) h1.objs.size as (fun b o e => ?_) (fresh _ _ N1) (ov_new N1) ?_⟩
  · rw [ov_old ?_]
    · exact e
    · cases z : N b with
      | none => rfl
      | some u =>
        rw [fresh b u z] at e
        cases e
  · exact Paired.imp (fun l b e => ⟨ov_new e, fresh _ _ e⟩) N2
end
end Spt

set_option Elab.async false
set_option linter.all false
set_option maxRecDepth 100000
set_option maxHeartbeats 4000000
/-! nets.py: all_lots, all_sides; rates.py: width_into, rate -/
namespace Spt
open PySem PySem.Spec PyProof.Rows L2
theorem runs_of {n : Nat} : ∀ (f : Nat) (i : List Nat), runE n f i = true → SptC.Runs n i (runF n f i)
  | 0, i, h => by cases h
  | f + 1, i, h => by
    unfold runE at h
    unfold runF
    cases e : nextI n i with
    | none => exact .last e
    | some j =>
      rw [e] at h
      exact .more e (runs_of f j h)
/-- new tuples, each of a lot of places -/
def LotsO (H : Hp) (as : List Addr) (ls : List (List Nat)) : Prop := Paired (fun (l : List Nat) (a : Addr) => H a = some (.tup (vns l))) ls as
theorem LotsO.same {H H' : Hp} {as : List Addr} {ls : List (List Nat)} (s : Same H H') (h : LotsO H as ls) : LotsO H' as ls := Paired.imp (fun _ _ q => s _ _ q) h
theorem comb_lt {n k : Nat} (h2 : 2 ≤ n) (h : n ≤ 10) : ∀ k, k < n → ∀ l ∈ comb n (k + 1), l ∈ lots n := by
  have sub : ∀ k m, k < m → ∀ l ∈ comb n (k + 1), l ∈ lotsK n m := by
    intro k m hk l hl
    induction m with
    | zero => omega
    | succ m ih =>
      unfold lotsK
      rw [List.mem_append]
      by_cases e : k = m
      · subst e; exact .inr hl
      · exact .inl (ih (by omega))
  exact fun k hk => sub k n hk
theorem pickV_range {n : Nat} {l : List Nat} (h : ∀ i ∈ l, i < n) : pickV (vns (List.range n)) l = vns l := by
  unfold pickV
  show List.map _ _ = List.map vn l
  refine List.map_congr_left fun i hi => ?_
  rw [List.getD_eq_getElem?_getD, vns_at (n := i) (by rw [List.getElem?_range (h i hi)])]
  rfl
theorem Paired.impM {α β : Type} {F G : α → β → Prop} : ∀ {l : List α} {m : List β}, (∀ a b, a ∈ l → F a b → G a b) → Paired F l m → Paired G l m
  | _, _, _, .nil => .nil
  | _, _, f, .cons h t => .cons (f _ _ List.mem_cons_self h) (Paired.impM (fun a b hm q => f a b (List.mem_cons_of_mem _ hm) q) t)
theorem Paired.append {α β : Type} {F : α → β → Prop} : ∀ {l₁ l₂ : List α} {m₁ m₂ : List β}, Paired F l₁ m₁ → Paired F l₂ m₂ → Paired F (l₁ ++ l₂) (m₁ ++ m₂)
  | _, _, _, _, .nil, h => h
  | _, _, _, _, .cons a t, h => .cons a (Paired.append t h)
section
variable {P : Program} {w : World} {K : PySem.W.Frag} {mg : Str → Option Value} {base : Heap}
/-! all_lots -/
theorem scAllLots : FnScope ["many", "found", "size"] ["many"] (defScope sPAllLots) := ⟨rfl, rfl, rfl, by decide +kernel, rfl, by decide +kernel, by decide +kernel⟩
def spAllLots : Sp := fun vs H Q _ => ∃ n : Nat, vs = [vn n] ∧ 2 ≤ n ∧ n ≤ 10 ∧ ∀ (H' : Hp) (D : Addr) (as : List Addr), Same H H' → H D = none → H' D = some (.lst (as.map V.ref)) → LotsO H' as (lots n) → Q (.ref D) H'
theorem okAllLots (T : Txt K mg) : FnK P w K mg base CX0 1 (He.ga K "all_lots") ["many"] spAllLots := by
  refine FnK.of T.d_PAllLots scAllLots (fun _ _ _ _ _ _ us hl => match us, hl with | [_], _ => rfl) (fun vs H Q E h => ?_) (fun cdv A outer s H vs Q E hr h => ?_)
  · obtain ⟨n, rfl, _⟩ := h
    rfl
  · obtain ⟨n, rfl, h2, h10, k⟩ := h
    refine ⟨_, pss_cons (ps_set (i := 1) scAllLots.nd rfl (.inl rfl) (pe_lst pa_nil))
      (pss_cons (ps_for PassesOwn.never rfl (pi_range2 rfl T.f_range (a2 pe_int (pe_op op_add (pv 0) pe_int))) (pg_name (i := 2) scAllLots.nd rfl (.inl rfl))
        (pss_one (ps_expr (pe_bm PySem.F.plainAttrs_list PySem.F.slot_list_extend PySem.F.type_list_extend mt_extend (pv 1) (a1 (pe_listCo rfl rfl T.f_list (pco rfl T.ex.comb (pe_listRg rfl rfl T.f_list (prg_1 rfl T.f_range (pv 0))) (pv 2))))))))
      (pss_one (ps_ret (pv 1)))), ?_⟩
    refine ⟨by show 0 ≤ sizeLine; omega, fun D hD => ?_⟩
    refine ⟨_, rfl, _, _, rfl, rfl, 1, (n : Int) + 1, rfl, ⟨by omega, by omega, by omega, by omega⟩, ?_⟩
    have e : ((n : Int) + 1 - 1).toNat = n := by omega
    rw [e]
    refine for_range (lo := 1) (n := n) (fun i σ H1 => Same H H1 ∧ ∃ (as : List Addr) (v : Option V), σ = [some (vn n), some (.ref D), v] ∧ H1 D = some (.lst (as.map V.ref)) ∧ LotsO H1 as (lotsK n i)) ⟨same_new hD, [], none, rfl, upd_same, .nil⟩ ?_ ?_
    · rintro i σ H1 hi ⟨s1, as, v, rfl, h1, lo⟩
      have ca := check_run h2 h10 hi
      refine ⟨_, rfl, .inl ⟨rfl, _, SqL.of h1⟩, ?_⟩
      refine ⟨_, rfl, (n : Int), rfl, RgOk.of_le (by omega) (by omega) (by omega) (by omega), fun l hl => ?_⟩
      rw [rgV_vns]
      refine ⟨_, rfl, l, vns (List.range n), i + 1, rfl, (by show V.int (1 + (i : Int)) = V.int ((i + 1 : Nat) : Int); rw [Int.natCast_add, Int.add_comm]; rfl), SqL.of upd_same, by rw [vns_len, List.length_range]; omega, by rw [vns_len, List.length_range]; omega, ?_⟩
      refine ⟨comb n (i + 1), by rw [vns_len, List.length_range]; exact runs_of 300 _ ca.1, by omega, fun l hl => ?_, fun H2 D2 as2 s2 n2 d2 p2 => ?_⟩
      · have hm := comb_lt (k := i) h2 h10 i hi l hl
        exact ⟨by have := lots_size h2 h10 hm; omega, by rw [vns_len, List.length_range]; exact lots_lt h2 h10 hm⟩
      · have s12 : Same H1 H2 := (same_new hl).trans s2
        have nDD : D ≠ D2 := ne_of_none ((same_new hl) _ _ h1) n2
        have len1 : as.length = (lotsK n i).length := (Paired.len lo).symm
        have len2 : as2.length = (comb n (i + 1)).length := (Paired.len p2).symm
        have b1 := lotsK_len h2 h10 i (by omega)
        refine ⟨D, D2, as.map V.ref, as2.map V.ref, rfl, rfl, s12 _ _ h1, d2, ?_, ?_⟩
        · rw [List.length_map, List.length_map, len1, len2, sizeLine_eq]
          omega
        · refine ⟨same_mut (s1.trans s12) hD, as ++ as2, _, rfl, by rw [upd_same, List.map_append], ?_⟩
          unfold lotsK
          refine Paired.append (Paired.imp (fun l b q => ?_) lo) (Paired.impM (fun l b hlb q => ?_) p2)
          · rw [upd_ne (ne_of q h1 (fun z => nomatch z))]
            exact s12 _ _ q
          · rw [upd_ne (Ne.symm (ne_of_none ((same_new hl) _ _ h1) q.2)), q.1]
            rw [pickV_range (lots_lt h2 h10 (comb_lt (k := i) h2 h10 i hi l hlb))]
    · rintro σ H1 ⟨s1, as, v, rfl, h1, lo⟩
      exact ⟨_, rfl, k H1 D as s1 hD h1 lo⟩
end
end Spt

set_option Elab.async false
set_option linter.all false
set_option maxRecDepth 100000
set_option maxHeartbeats 4000000
/-! nets.py: all_sides; rates.py: check_widths, width_into, rate -/
namespace Spt
open PySem PySem.Spec PyProof.Rows L2
theorem Paired.zipd {α β : Type} {F : α → β → Prop} : ∀ {l : List α} {m : List β}, Paired F l m → ∃ ps : List (α × β), l = ps.map (·.1) ∧ m = ps.map (·.2) ∧ ∀ p ∈ ps, F p.1 p.2
  | _, _, .nil => ⟨[], rfl, rfl, fun _ h => nomatch h⟩
  | a :: _, b :: _, .cons h t => by
    obtain ⟨ps, e1, e2, e3⟩ := Paired.zipd t
    refine ⟨(a, b) :: ps, by rw [e1]; rfl, by rw [e2]; rfl, fun p hp => ?_⟩
    rcases List.mem_cons.mp hp with e | hp
    · rw [e]; exact h
    · exact e3 p hp
theorem Paired.unzip {α β : Type} {F : α → β → Prop} : ∀ {ps : List (α × β)}, (∀ p ∈ ps, F p.1 p.2) → Paired F (ps.map (·.1)) (ps.map (·.2))
  | [], _ => .nil
  | p :: ps, h => .cons (h p List.mem_cons_self) (Paired.unzip fun q hq => h q (List.mem_cons_of_mem _ hq))
/-- the sides, fewest first -/
def sides (n root : Nat) : List (List Nat) := (lots n).filter fun l => !decide (root ∈ l)
def WidthsO (H : Hp) (wt : Addr) (ws : List Nat) (es : List (Nat × Nat)) : Prop := H wt = some (.tup (vns ws)) ∧ ws.length = es.length ∧ ∀ x ∈ ws, x ≤ 20
theorem WidthsO.same {H H' : Hp} {wt : Addr} {ws : List Nat} {es : List (Nat × Nat)} (s : Same H H') (h : WidthsO H wt ws es) : WidthsO H' wt ws es := ⟨s _ _ h.1, h.2⟩
def IsMin (m : Nat) (l : List Nat) : Prop := m ∈ l ∧ ∀ y ∈ l, m ≤ y
theorem filter_map_fst {α β : Type} (p : α → Bool) : ∀ ps : List (α × β), (ps.filter fun q => p q.1).map (·.1) = (ps.map (·.1)).filter p
  | [] => rfl
  | q :: ps => by
    rw [List.map_cons, List.filter_cons, List.filter_cons]
    cases h : p q.1
    · simp [filter_map_fst p ps]
    · simp [filter_map_fst p ps]
section
variable {P : Program} {w : World} {K : PySem.W.Frag} {mg : Str → Option Value} {base : Heap}
/-! all_sides -/
theorem scAllSides : FnScope ["net", "lot"] ["net"] (defScope sPAllSides) := ⟨rfl, rfl, rfl, by decide +kernel, rfl, by decide +kernel, by decide +kernel⟩
def spAllSides (K : PySem.W.Frag) : Sp := fun vs H Q _ => ∃ (g lt : Addr) (n root : Nat), vs = [.ref g] ∧ NetO K H g n root lt ∧ 2 ≤ n ∧ n ≤ 10 ∧ ∀ (H' : Hp) (D : Addr) (as : List Addr), Same H H' → H D = none → H' D = some (.lst (as.map V.ref)) → LotsO H' as (sides n root) → Q (.ref D) H'
theorem okAllSides (T : Txt K mg) : FnK P w K mg base CX0 2 (He.ga K "all_sides") ["net"] (spAllSides K) := by
  refine FnK.of T.d_PAllSides scAllSides (fun _ _ _ _ _ _ us hl => match us, hl with | [_], _ => rfl) (fun vs H Q E h => ?_) (fun cdv A outer s H vs Q E hr h => ?_)
  · obtain ⟨g, lt, n, root, rfl, _⟩ := h
    rfl
  · obtain ⟨g, lt, n, root, rfl, hg, h2, h10, k⟩ := h
    obtain ⟨dx, fs, hg', f1, f2, f3⟩ := id hg
    refine ⟨_, pss_one (ps_ret (lct 1 (pi_list (cl (okAllLots T) hr T.g_all_lots (a1 (pe_fld (pv 0) rfl)))) (fun _ _ _ _ _ => pt_cmpR (opNotIn K) (fldK K (pv 0)) (pv 1) (by rfl)) (fun _ _ _ _ _ => pv 1) scAllSides)), ?_⟩
    refine ⟨_, rfl, g, _, dx, fs, _, rfl, hg', T.c_Net, T.n_many, f1, n, rfl, h2, h10, fun H1 D as s1 hD h1 lo => ?_⟩
    obtain ⟨ps, e1, rfl, e3⟩ := Paired.zipd lo
    refine ⟨D, rfl, ⟨_, SqL.of h1⟩, fun D2 hD2 => ?_⟩
    have h1' : SqL K H1 D (ps.map fun q => V.ref q.2) := by
      have := SqL.of (K := K) h1
      rw [List.map_map] at this
      exact this
    refine comp_list (K := K) ps (fun q => V.ref q.2) (fun q => !decide (root ∈ q.1)) (fun _ q y => y = .ref q.2) hD2 h1' ?_ (fun _ _ _ _ _ h => h) (fun _ => rfl) (fun q hm H2 s2 Qb qq => ?_) (fun q hm _ H2 s2 _ Qv qq => ⟨_, rfl, qq _ H2 (Same.refl _) rfl⟩) (fun H2 ys s2 d2 r => ?_)
    · have := lots_len h2 h10
      rw [e1, List.length_map] at this
      rw [sizeLine_eq]
      omega
    · have s12 := s1.trans s2
      refine ⟨_, rfl, g, _, dx, fs, _, rfl, s12 _ _ hg', T.c_Net, T.n_root, f2, _, rfl, q.2, _, rfl, .inr (SqT.of (s2 _ _ (e3 q hm))), rfl, vns_flat _, _, rfl, ?_⟩
      rw [inV_vns]
      exact qq H2 (Same.refl _)
    · have e := Paired.eq_map r
      subst e
      refine k H2 D2 ((ps.filter fun q => !decide (root ∈ q.1)).map (·.2)) (s1.trans s2) (s1.free hD2) (by rw [d2, List.map_map]; rfl) ?_
      unfold sides
      rw [e1, ← filter_map_fst (fun l => !decide (root ∈ l)) ps]
      exact Paired.unzip fun q hq => s2 _ _ (e3 q (List.mem_filter.mp hq).1)
/-! check_widths -/
theorem scCheckWidths : FnScope ["net", "widths", "width"] ["net", "widths"] (defScope sPCheckWidths) := ⟨rfl, rfl, rfl, by decide +kernel, rfl, by decide +kernel, by decide +kernel⟩
def spCheckWidths (K : PySem.W.Frag) : Sp := fun vs H Q _ => ∃ (g lt wt : Addr) (n root : Nat) (es : List (Nat × Nat)) (ws : List Nat), vs = [.ref g, .ref wt] ∧ NetO K H g n root lt ∧ LinksO H lt es ∧ WidthsO H wt ws es ∧ es.length ≤ 1000 ∧ ∀ H', Same H H' → Q .non H'
theorem okCheckWidths (T : Txt K mg) : FnK P w K mg base CX0 3 (He.ga K "check_widths") ["net", "widths"] (spCheckWidths K) := by
  refine FnK.of T.d_PCheckWidths scCheckWidths (fun _ _ _ _ _ _ us hl => match us, hl with | [_, _], _ => rfl) (fun vs H Q E h => ?_) (fun cdv A outer s H vs Q E hr h => ?_)
  · obtain ⟨g, lt, wt, n, root, es, ws, rfl, _⟩ := h
    rfl
  · obtain ⟨g, lt, wt, n, root, es, ws, rfl, hg, hlt, ⟨hw, hwl, hwm⟩, hz, k⟩ := h
    obtain ⟨dx, fs, hg', f1, f2, f3⟩ := id hg
    obtain ⟨xs, hx, hxl⟩ := hlt.len
    refine ⟨_, pss_cons (ps_expr (cl ((okCheckNet T).mono (by decide)) hr T.g_check_net (a1 (pv 0))))
      (pss_cons (ps_if (PW.pt (pw_or (pt_not (pt_val (cb call_isTy T.f_isinstance (a2 (pv 1) (bty "tuple" T.f_tuple))))) (pw_or1 (pt_cmpR op_ne (cb call_len T.f_len (a1 (pv 1))) (cb call_len T.f_len (a1 (pe_fld (pv 0) rfl))) (nomark _))))) pss_never pss_nil)
      (pss_one (ps_if (pt_not (pt_val (cb (cr_all rfl) T.f_all (a1 (lcn 2 (pi_tup (pv 1)) (fun _ _ _ _ _ => cl (okIsWithin T) hr T.g_is_within (a3 (pv 2) pe_int (gint T.i_MOST_WIDTH))) scCheckWidths))))) pss_never pss_nil))), ?_⟩
    refine ⟨_, rfl, g, lt, n, root, rfl, hg, ?_⟩
    refine ⟨_, rfl, _, _, _, _, rfl, .base (.tup hw), (by decide +kernel : kitB "tuple" "tuple" = some true), true, rfl, ?_⟩
    refine iteF ?_
    refine ⟨_, rfl, _, ws.length, rfl, .inr ⟨_, SqT.of hw, (vns_len ws).symm⟩, _, rfl, g, _, dx, fs, _, rfl, hg', T.c_Net, T.n_links, f3, _, es.length, rfl, .inr ⟨_, SqT.of hx, hxl.symm⟩, rfl, _, rfl, ?_⟩
    rw [hwl]
    rw [decide_eq_true rfl]
    refine iteF ?_
    refine ⟨_, rfl, wt, rfl, ⟨_, SqT.of hw⟩, fun D hD => ?_⟩
    refine comp_tup (K := K) ws vn (fun _ => true) (fun _ x y => y = .bl true) hD (SqT.of hw) (sz64 (by omega)) (fun _ _ _ _ _ h => h) (fun _ => rfl) (fun x _ H1 s1 Qb q => q H1 (Same.refl _)) (fun z hm _ H1 s1 _ Qv q => ?_) (fun H1 ys s1 h1 r => ?_)
    · refine ⟨_, rfl, _, _, _, rfl, ?_⟩
      refine q _ H1 (Same.refl _) ?_
      have := hwm z hm
      rw [decide_eq_true (show (0 : Int) ≤ (z : Int) ∧ (z : Int) ≤ 20 by omega)]
    · rw [List.filter_eq_self.mpr (fun _ _ => rfl)] at r
      have e := Paired.eq_map r
      subst e
      refine ⟨D, ws.map fun _ => true, rfl, by rw [List.map_map]; exact SqL.of h1, true, ?_, ?_⟩
      · have : (ws.map fun _ => true).all id = true := by rw [List.all_map, List.all_eq_true]; intro x _; rfl
        rw [this]
      · exact iteF (k H1 s1)
/-! width_into -/
theorem scWidthInto : FnScope ["net", "widths", "side", "link"] ["net", "widths", "side"] (defScope sPWidthInto) := ⟨rfl, rfl, rfl, by decide +kernel, rfl, by decide +kernel, by decide +kernel⟩
def spWidthInto (K : PySem.W.Frag) : Sp := fun vs H Q _ => ∃ (g lt wt a : Addr) (n root : Nat) (es : List (Nat × Nat)) (ws l : List Nat), vs = [.ref g, .ref wt, .ref a] ∧ NetO K H g n root lt ∧ LinksO H lt es ∧ WidthsO H wt ws es ∧ es.length ≤ 1000 ∧ SqT K H a (vns l) ∧ ∀ H', Same H H' → Q (vn (widthInto es ws l)) H'
theorem okWidthInto (T : Txt K mg) : FnK P w K mg base CX0 3 (He.ga K "width_into") ["net", "widths", "side"] (spWidthInto K) := by
  refine FnK.of T.d_PWidthInto scWidthInto (fun _ _ _ _ _ _ us hl => match us, hl with | [_, _, _], _ => rfl) (fun vs H Q E h => ?_) (fun cdv A outer s H vs Q E hr h => ?_)
  · obtain ⟨g, lt, wt, a, n, root, es, ws, l, rfl, _⟩ := h
    rfl
  · obtain ⟨g, lt, wt, a, n, root, es, ws, l, rfl, hg, hlt, ⟨hw, hwl, hwm⟩, hz, ha, k⟩ := h
    refine ⟨_, pss_one (ps_ret (cb (cr_sum rfl) T.f_sum (a1 (lcn 3 (pi_list (cl (okEnteringOf T) hr T.g_entering_of (a3 (pv 0) (cl (okEveryLink T) hr T.g_every_link (a1 (pv 0))) (pv 2)))) (fun _ _ _ _ _ => pe_ix (ixT K) (pv 1) (pv 3) (fun _ _ => rfl)) scWidthInto)))), ?_⟩
    refine ⟨_, rfl, _, rfl, g, lt, n, root, es, rfl, hg, hlt, hz, fun H1 t s1 n1 t1 => ?_⟩
    refine ⟨_, rfl, g, lt, t, a, n, root, es, List.range es.length, l, rfl, hg.same s1, hlt.same s1, SqT.of t1, fun i hi => List.mem_range.mp hi, by rw [List.length_range]; exact hz, same_tseq s1 ha, fun H2 D s2 n2 d2 => ?_⟩
    refine ⟨D, rfl, ⟨_, SqL.of d2⟩, fun D2 hD2 => ?_⟩
    have mem : ∀ x ∈ enterOf es (List.range es.length) l, x < ws.length := fun x hx => by
      rw [hwl]
      exact List.mem_range.mp (List.mem_filter.mp hx).1
    refine comp_list (K := K) (enterOf es (List.range es.length) l) vn (fun _ => true) (fun _ x y => y = vn (ws.getD x 0)) hD2 (SqL.of d2) ?_ (fun _ _ _ _ _ h => h) (fun _ => rfl) (fun x _ H3 s3 Qb q => q H3 (Same.refl _)) (fun x hm _ H3 s3 _ Qv q => ?_) (fun H3 ys s3 h3 r => ?_)
    · refine sz64 ?_
      unfold enterOf
      refine Nat.le_trans (List.length_filter_le _ _) ?_
      rw [List.length_range]
      omega
    · have hx := mem x hm
      refine ⟨_, rfl, _, rfl, wt, _, _, vn (ws.getD x 0), rfl, rfl, SqT.of (s3 _ _ (s2 _ _ (s1 _ _ hw))), atI_nat (vns_at ?_), q _ H3 (Same.refl _) rfl⟩
      rw [List.getD_eq_getElem?_getD, List.getElem?_eq_getElem hx]
      rfl
    · rw [List.filter_eq_self.mpr (fun _ _ => rfl)] at r
      have e := Paired.eq_map r
      subst e
      refine ⟨D2, ((enterOf es (List.range es.length) l).map fun x => ws.getD x 0).map fun n : Nat => (n : Int), rfl, ?_, ?_⟩
      · rw [← vns_eq]
        unfold vns
        rw [List.map_map]
        exact SqL.of h3
      · rw [sum_cast]
        exact k H3 ((s1.trans s2).trans s3)
/-! rate -/
theorem scRate : FnScope ["net", "widths", "side"] ["net", "widths"] (defScope sPRate) := ⟨rfl, rfl, rfl, by decide +kernel, rfl, by decide +kernel, by decide +kernel⟩
def spRate (K : PySem.W.Frag) : Sp := fun vs H Q _ => ∃ (g lt wt : Addr) (n root : Nat) (es : List (Nat × Nat)) (ws : List Nat), vs = [.ref g, .ref wt] ∧ NetO K H g n root lt ∧ LinksO H lt es ∧ WidthsO H wt ws es ∧ es.length ≤ 1000 ∧ 2 ≤ n ∧ n ≤ 10 ∧ root < n ∧ ∀ H' m, Same H H' → IsMin m ((sides n root).map (widthInto es ws)) → Q (vn m) H'
theorem sides_pos {n root : Nat} (h2 : 2 ≤ n) (h : n ≤ 10) : 0 < (sides n root).length := by
  -- a place that isn't the root
  have key : ∀ p, p < n → p ≠ root → 0 < (sides n root).length := fun p hp hne => by
    have hm := lots_of h2 h (m := 2 ^ p) (Nat.two_pow_pos p) (Nat.pow_lt_pow_right (by decide) hp)
    have : bitsOf n (2 ^ p) ∈ sides n root := by
      refine List.mem_filter.mpr ⟨hm, ?_⟩
      rw [Bool.not_eq_true', decide_eq_false_iff_not]
      intro z
      have := (mem_bitsOf.mp z).2
      rw [Nat.testBit_two_pow] at this
      exact hne (of_decide_eq_true this)
    exact List.length_pos_of_mem this
  by_cases e : root = 0
  · exact key 1 (by omega) (by omega)
  · exact key 0 (by omega) (by omega)
theorem okRate (T : Txt K mg) : FnK P w K mg base CX0 4 (He.ga K "rate") ["net", "widths"] (spRate K) := by
  refine FnK.of T.d_PRate scRate (fun _ _ _ _ _ _ us hl => match us, hl with | [_, _], _ => rfl) (fun vs H Q E h => ?_) (fun cdv A outer s H vs Q E hr h => ?_)
  · obtain ⟨g, lt, wt, n, root, es, ws, rfl, _⟩ := h
    rfl
  · obtain ⟨g, lt, wt, n, root, es, ws, rfl, hg, hlt, hw, hz, h2, h10, hroot, k⟩ := h
    refine ⟨_, pss_cons (ps_expr (cl (okCheckWidths T) hr T.g_check_widths (a2 (pv 0) (pv 1))))
      (pss_one (ps_ret (cb (cr_min rfl) T.f_min (a1 (lcn 2 (pi_list (cl ((okAllSides T).mono (by decide)) hr T.g_all_sides (a1 (pv 0)))) (fun _ _ _ _ _ => cl (okWidthInto T) hr T.g_width_into (a3 (pv 0) (pv 1) (pv 2))) scRate))))), ?_⟩
    refine ⟨_, rfl, _, rfl, g, lt, wt, n, root, es, ws, rfl, hg, hlt, hw, hz, fun H1 s1 => ?_⟩
    refine ⟨_, rfl, g, lt, n, root, rfl, hg.same s1, h2, h10, fun H2 D as s2 n2 d2 lo => ?_⟩
    obtain ⟨ps, e1, rfl, e3⟩ := Paired.zipd lo
    refine ⟨D, rfl, ⟨_, SqL.of d2⟩, fun D2 hD2 => ?_⟩
    have d2' : SqL K H2 D (ps.map fun q => V.ref q.2) := by
      have := SqL.of (K := K) d2
      rw [List.map_map] at this
      exact this
    have s12 := s1.trans s2
    refine comp_list (K := K) ps (fun q => V.ref q.2) (fun _ => true) (fun _ q y => y = vn (widthInto es ws q.1)) hD2 d2' ?_ (fun _ _ _ _ _ h => h) (fun _ => rfl) (fun x _ H3 s3 Qb q => q H3 (Same.refl _)) (fun q hm _ H3 s3 _ Qv qq => ?_) (fun H3 ys s3 h3 r => ?_)
    · have := lots_len h2 h10
      have l2 : (sides n root).length ≤ (lots n).length := List.length_filter_le _ _
      rw [e1, List.length_map] at l2
      rw [sizeLine_eq]
      omega
    · have s13 := s12.trans s3
      exact ⟨_, rfl, _, rfl, _, rfl, g, lt, wt, q.2, n, root, es, ws, q.1, rfl, hg.same s13, hlt.same s13, hw.same s13, hz, SqT.of (s3 _ _ (e3 q hm)), fun H4 s4 => qq _ H4 s4 rfl⟩
    · rw [List.filter_eq_self.mpr (fun _ _ => rfl)] at r
      have e := Paired.eq_map r
      subst e
      have ee : ps.map (fun q => vn (widthInto es ws q.1)) = (((sides n root).map (widthInto es ws)).map fun n : Nat => (n : Int)).map V.int := by
        rw [e1, List.map_map, List.map_map, List.map_map]
        rfl
      refine ⟨D2, ((sides n root).map (widthInto es ws)).map fun n : Nat => (n : Int), rfl, by rw [← ee]; exact SqL.of h3, ?_, fun m hm hle => ?_⟩
      · rw [List.length_map, List.length_map]
        exact sides_pos h2 h10
      · obtain ⟨m', hm', rfl⟩ := List.mem_map.mp hm
        refine k H3 m' (s12.trans s3) ⟨hm', fun y hy => ?_⟩
        have := hle (y : Int) (List.mem_map.mpr ⟨y, hy, rfl⟩)
        omega
end
end Spt

set_option Elab.async false
set_option linter.all false
set_option maxRecDepth 100000
set_option maxHeartbeats 4000000
/-! enumerate(a tuple), dict(enumerate(a tuple)): at the library's level -/
namespace SptE
open PySem PySem.Spec
open Sem (wp)
theorem meets_enumB {v : Value} {o : Obj} {H : Heap → Prop} (B : Begins v o H) :
    Meets (Builtin.«enumerate.__new__» ⟨[.type "enumerate", v], []⟩) (fun _ R s => H s.heap ∧
      R (.ok (.ret (.ref (s.heap.push o).objs.size))) { s with heap := (s.heap.push o).push { cls := .type "enumerate", data := .fields #[.none, .bool false, .ref s.heap.objs.size, rawInt 0, .none, .none] } }) :=
  .of_wp fun prog w A R s h => by
    obtain ⟨hp, g, d, tk, os⟩ := s; obtain ⟨h1, h⟩ := h
    have hsub := sub_enumerate
    have q1 : ∀ {A' : Around} {E : Value → Shared → Prop} {Q : Value → Shared → Prop}, Q (.ref hp.objs.size) ⟨hp.push o, g, d, tk, os⟩ → wpAny (model prog w) A' (pyIter v) Q E ⟨hp, g, d, tk, os⟩ :=
      fun q => B.iter prog w _ _ ⟨hp, g, d, tk, os⟩ _ h1 q
    wp_walk using q1
    refine wpAny_stack_any fun st => wpAny_pure ?_
    split
    · rename_i c _ _ _ _ _
      cases (c == Value.type "enumerate")
      · wp_walk using q1
        exact ⟨_, rfl, h⟩
      · wp_walk using q1
        exact ⟨_, rfl, h⟩
    · wp_walk using q1
      exact ⟨_, rfl, h⟩
section
variable {prog : Program} {w : World} {A : Around} {E : Value → Shared → Prop} {s : Shared}
theorem call_enumB {v : Value} {o : Obj} {H : Heap → Prop} {Q : Value → Shared → Prop} (B : Begins v o H) (h1 : H s.heap)
    (h : ∀ h', IsEnum h' (s.heap.objs.size + 1) s.heap.objs.size 0 .none → h'.get? s.heap.objs.size = some o → h'.objs.size = s.heap.objs.size + 2 →
      (∀ b o, s.heap.get? b = some o → h'.get? b = some o) → Q (.ref (s.heap.objs.size + 1)) { s with heap := h' }) :
    wpAny (model prog w) A (call (.type "enumerate") [v]) Q E s := by
  refine callType_new F.called_enumerate (by decide) (F.typeCall_enumerate_1 _) (F.newCall_enumerate_1 _) (fun obj => F.args_object_init_2 obj _) F.entry_enumerate_new
    (meets_enumB B) ⟨h1, ?_⟩
  have hz : (s.heap.push o).objs.size = s.heap.objs.size + 1 := Heap.size_push ..
  show _ ∧ _
  rw [hz]
  have he : IsEnum ((s.heap.push o).push { cls := .type "enumerate", data := .fields #[.none, .bool false, .ref s.heap.objs.size, rawInt 0, .none, .none] }) (s.heap.objs.size + 1) s.heap.objs.size 0 .none := by
    have := Heap.get?_push_size (s.heap.push o) (o := { cls := .type "enumerate", data := .fields #[.none, .bool false, .ref s.heap.objs.size, rawInt 0, .none, .none] }) rfl
    rw [hz] at this; exact this
  refine ⟨⟨_, he, rfl⟩, h _ he (Heap.get?_push_of_some _ (Heap.get?_push_size _ B.free)) (by rw [Heap.size_push, hz]) fun b o x => Heap.get?_push_of_some _ (Heap.get?_push_of_some _ x)⟩
theorem enum_held {e it l T : Addr} {i : Nat} {items : Array Value} {x old : Value} {f : Bool} {oT : Obj} {Q : Value → Shared → Prop}
    (he : IsEnumHeld s.heap e it i old T f) (hT : s.heap.get? T = some oT) (hTe : T ≠ e) (hTi : T ≠ it) (hit : s.heap.IsTupleIter it l i) (hl : s.heap.IsTuple l items) (hx : items[i]? = some x) (hne : e ≠ it)
    (hQ : ∀ h', IsEnumHeld h' e it ((i : Int) + 1) old T true → h'.IsTupleIter it l (i + 1) →
      h'.get? s.heap.objs.size = some { cls := .type "tuple", data := .seq #[.int i s.toks, x] } → h'.objs.size = s.heap.objs.size + 1 →
      (∀ b o, b ≠ e → b ≠ it → s.heap.get? b = some o → h'.get? b = some o) → Q (.ref s.heap.objs.size) { s with heap := h', toks := s.toks + 1 }) :
    wpAny (model prog w) A (Builtin.«enumerate.__next__» ⟨[.ref e], []⟩) (fun fin s' => ∃ v, fin = .done (.ret v) ∧ Q v s') E s := by
  obtain ⟨hp, g, d, tk, os⟩ := s
  show wpAny _ _ (field (.ref e) 2 >>= _) _ _ _
  refine wpAny_bind (wpAny_field he rfl (x := .ref it) rfl ?_)
  refine wpAny_bind (wpAny_nextOf_tuple_item hit hl hx fun h₁ hit₁ hs₁ => ?_)
  replace hs₁ : Heap.SameBut it hp h₁ := hs₁
  have he₁ : IsEnumHeld h₁ e it i old T f := (hs₁.2 e hne).trans he
  show wpAny _ _ (field (.ref e) 3 >>= _) _ _ ⟨h₁, g, d, tk, os⟩
  refine wpAny_bind (wpAny_field he₁ rfl (x := rawInt i) rfl ?_)
  show wpAny _ _ (field (.ref e) 4 >>= _) _ _ ⟨h₁, g, d, tk, os⟩
  refine wpAny_bind (wpAny_field he₁ rfl (x := .none) rfl ?_)
  show wpAny _ _ (mkInt i >>= _) _ _ ⟨h₁, g, d, tk, os⟩
  refine wpAny_bind (wpAny_mkInt ?_)
  show wpAny _ _ (setField (.ref e) 3 (rawInt ((i : Int) + 1)) >>= _) _ _ ⟨h₁, g, d, tk + 1, os⟩
  refine wpAny_bind (wpAny_setField_rec he₁ (by simp) fun h₂ he₂ hs₂ => ?_)
  replace hs₂ : Heap.SameBut e h₁ h₂ := hs₂
  replace he₂ : IsEnumHeld h₂ e it ((i : Int) + 1) old T f := he₂
  show wpAny _ _ (setField (.ref e) 4 .none >>= _) _ _ ⟨h₂, g, d, tk + 1, os⟩
  refine wpAny_bind (wpAny_setField_rec he₂ (by simp) fun h₃ he₃ hs₃ => ?_)
  replace hs₃ : Heap.SameBut e h₂ h₃ := hs₃
  replace he₃ : IsEnumHeld h₃ e it ((i : Int) + 1) old T f := he₃
  show wpAny _ _ (newTuple [.int i tk, x] >>= _) _ _ ⟨h₃, g, d, tk + 1, os⟩
  refine wpAny_bind (wpAny_newTuple ?_)
  have he₄ : IsEnumHeld (h₃.push { cls := .type "tuple", data := .seq #[.int i tk, x] }) e it ((i : Int) + 1) old T f := Heap.get?_push_of_some _ he₃
  generalize hh₄ : h₃.push { cls := .type "tuple", data := .seq #[.int i tk, x] } = h₄ at he₄
  have hsz : h₃.objs.size = hp.objs.size := by rw [hs₃.1, hs₂.1, hs₁.1]
  have hel : e < hp.objs.size := Heap.lt_size he
  have ht₄ : h₄.get? hp.objs.size = some { cls := .type "tuple", data := .seq #[.int i tk, x] } := by rw [← hh₄, ← hsz]; exact Heap.get?_push_size _ rfl
  have hz₄ : h₄.objs.size = hp.objs.size + 1 := by rw [← hh₄, Heap.size_push, hsz]
  have hk₄ : ∀ b o, b ≠ e → b ≠ it → hp.get? b = some o → h₄.get? b = some o := fun b o hbe hbi hb => by
    rw [← hh₄]; exact Heap.get?_push_of_some _ (hs₃.extBut b o hbe (hs₂.extBut b o hbe (hs₁.extBut b o hbi hb)))
  have hit₄ : h₄.IsTupleIter it l (i + 1) := by
    rw [← hh₄]
    refine (hit₁.at fun o ho => ?_)
    exact Heap.get?_push_of_some _ (hs₃.extBut _ _ (Ne.symm hne) (hs₂.extBut _ _ (Ne.symm hne) ho))
  show wpAny _ _ (Builtin.SmallTypes.ownedTupleIsFree (.ref e) >>= _) _ _ ⟨h₄, g, d, tk + 1, os⟩
  rw [hsz]
  clear hh₄ he₃ hs₃ he₂ hs₂ he₁ hs₁ hit₁ hsz h₃ h₂ h₁
  refine wpAny_bind (wpAny_tupleHeld_enum (s := ⟨h₄, g, d, tk + 1, os⟩) he₄ (hk₄ T oT hTe hTi hT) fun h₅ he₅ hs₅ => ?_)
  replace hs₅ : Heap.SameBut e h₄ h₅ := hs₅
  simp only [Bool.false_eq_true, if_false]
  refine wpAny_pure ⟨_, rfl, hQ h₅ he₅ (hit₄.at fun o ho => hs₅.extBut _ _ (Ne.symm hne) ho) (hs₅.extBut _ _ (Nat.ne_of_gt hel) ht₄) ?_ fun b o hbe hbi hb => hs₅.extBut b o hbe (hk₄ b o hbe hbi hb)⟩
  show h₅.objs.size = hp.objs.size + 1
  rw [hs₅.1, hz₄]
theorem next_held {e it l T : Addr} {i : Nat} {items : Array Value} {x old : Value} {f : Bool} {oT : Obj} {Q : Option Value → Shared → Prop}
    (he : IsEnumHeld s.heap e it i old T f) (hT : s.heap.get? T = some oT) (hTe : T ≠ e) (hTi : T ≠ it) (hit : s.heap.IsTupleIter it l i) (hl : s.heap.IsTuple l items) (hx : items[i]? = some x) (hne : e ≠ it)
    (hQ : ∀ h', IsEnumHeld h' e it ((i : Int) + 1) old T true → h'.IsTupleIter it l (i + 1) →
      h'.get? s.heap.objs.size = some { cls := .type "tuple", data := .seq #[.int i s.toks, x] } → h'.objs.size = s.heap.objs.size + 1 →
      (∀ b o, b ≠ e → b ≠ it → s.heap.get? b = some o → h'.get? b = some o) → Q (some (.ref s.heap.objs.size)) { s with heap := h', toks := s.toks + 1 }) :
    wpAny (model prog w) A (pyNext (.ref e)) Q E s := by
  have hTy : s.TypeIs (.ref e) "enumerate" := ⟨_, he, rfl⟩
  unfold pyNext
  exact wpAny_bind (wpAny_attempt (wpAny_callSpecial?_slot (name := Str.ofString "__next__") hTy F.slot_enumerate_next
    (wpAny_call_entry F.slot_enumerate_next hTy F.entry_enumerate_next
      (enum_held he hT hTe hTi hit hl hx hne fun h' a1 a2 a3 a4 a5 => wpAny_pure (hQ h' a1 a2 a3 a4 a5)) (F.args_enumerate_next_1 _))))
theorem end_held {e it l T : Addr} {i : Nat} {items : Array Value} {old : Value} {f : Bool} {Q : Option Value → Shared → Prop} (hh : A.handled = none)
    (he : IsEnumHeld s.heap e it i old T f) (hit : s.heap.IsTupleIter it l i) (hl : s.heap.IsTuple l items) (hx : items[i]? = none)
    (hQ : ∀ h', Heap.ExtBut it s.heap h' → Q none { s with heap := h' }) : wpAny (model prog w) A (pyNext (.ref e)) Q E s := by
  have hTy : s.TypeIs (.ref e) "enumerate" := ⟨_, he, rfl⟩
  unfold pyNext
  refine wpAny_bind (wpAny_attempt (wpAny_callSpecial?_slot (name := Str.ofString "__next__") hTy F.slot_enumerate_next
    (wpAny_call_entry F.slot_enumerate_next hTy F.entry_enumerate_next ?_ (F.args_enumerate_next_1 _))))
  show wpAny _ _ (field (.ref e) 2 >>= _) _ _ _
  refine wpAny_bind (wpAny_field he rfl (x := .ref it) rfl ?_)
  refine wpAny_bind (wpAny_nextOf_tuple_end hh hit hl hx fun h' x he' hx' => ?_)
  obtain ⟨o, ho, hc⟩ := hx'
  refine wpAny_bind (wpAny_isInstance (T := "StopIteration") (b := true) ⟨o, ho, hc⟩ isSubtype_stop ?_)
  exact wpAny_pure (hQ _ he')
end
section
variable {prog : Program} {w : World}
theorem enumArg (e it l : Addr) (hei : e ≠ it) (hle : l ≠ e) (hli : l ≠ it) (items : Array Value) :
    PairArg prog w "enumerate" e [e, it, l] [e, it] items.size (fun i k v => (∃ t, k = .int i t) ∧ items[i]? = some v)
      (fun h => (∃ old, IsEnum h e it 0 old) ∧ h.IsTupleIter it l 0 ∧ h.IsTuple l items) where
  type := fun s ok => let ⟨⟨_, he⟩, _⟩ := ok; ⟨_, he, rfl⟩
  notDict := by decide
  keep := fun h h' ok hk => by
    obtain ⟨⟨old, he⟩, hit, hl⟩ := ok
    exact ⟨⟨old, hk _ _ he⟩, hit.at fun o x => hk _ o x, hl.at fun o x => hk _ o x⟩
  there := fun h ok b hb => by
    obtain ⟨⟨old, he⟩, ⟨o1, h1, _⟩, ⟨o2, h2, _⟩⟩ := ok
    simp only [List.mem_cons, List.not_mem_nil, or_false] at hb
    rcases hb with rfl | rfl | rfl
    all_goals first | exact ⟨_, he⟩ | exact ⟨_, h1⟩ | exact ⟨_, h2⟩
  sub := fun b hb => by simp at hb ⊢; rcases hb with rfl | rfl <;> simp
  noKeys := fun A s Q E hA ok h => let ⟨⟨_, he⟩, _⟩ := ok; getAttrOr_miss_enumerate he rfl rfl rfl enumerate_no_keys (by decide +kernel) hA h
  iter := fun A s d Q E hA ok hd hdf h => by
    obtain ⟨⟨old, he⟩, hit, hl⟩ := ok
    simp only [List.mem_cons, List.not_mem_nil, or_false, not_or] at hdf
    obtain ⟨de, dit, dl⟩ := hdf
    refine wpAny_pyIter_enum he (h e [e, it] (fun i h => h.IsTupleIter it l i ∧ h.IsTuple l items ∧ ((∃ old, IsEnum h e it i old) ∨ ∃ old T f oT, IsEnumHeld h e it i old T f ∧ h.get? T = some oT ∧ T ≠ e ∧ T ≠ it ∧ T ≠ d)) s.heap s.toks ?_
      ⟨hit, hl, .inl ⟨old, he⟩⟩ (fun _ _ e => e) fun b hb => .inl hb)
    exact {
      off := fun hm => by
        simp only [List.mem_cons, List.not_mem_nil, or_false] at hm
        rcases hm with x | x
        · exact de x
        · exact dit x
      frame := fun i h₁ h₂ st hk => by
        obtain ⟨hit, hl, he⟩ := st
        refine ⟨hit.at fun o x => hk _ o (Ne.symm dit) x, hl.at fun o x => hk _ o (Ne.symm dl) x, ?_⟩
        rcases he with ⟨old, he⟩ | ⟨old, T, f, oT, he, hT, r1, r2, r3⟩
        · exact .inl ⟨old, hk _ _ (Ne.symm de) he⟩
        · exact .inr ⟨old, T, f, oT, hk _ _ (Ne.symm de) he, hk _ _ r3 hT, r1, r2, r3⟩
      item := fun i s₁ Q₁ E₁ hi st hds hQ => by
        obtain ⟨hit, hl, he⟩ := st
        have ex := Array.getElem?_eq_getElem hi
        have ec : ((i + 1 : Nat) : Int) = (i : Int) + 1 := by omega
        have nit : s₁.heap.objs.size ≠ it := let ⟨_, x, _⟩ := hit; Nat.ne_of_gt (Heap.lt_size x)
        rcases he with ⟨old, he⟩ | ⟨old, T, f, oT, he, hT, r1, r2, r3⟩
        · refine wpAny_pyNext_enum_itemD (Draws.tuple (by exact hA) it l hli items) he ⟨hit, hl⟩ hi hei (by simp [hei, Ne.symm hle]) fun x h' tk hx ho st' hT hsz hk => ?_
          obtain ⟨hit', hl'⟩ := st'
          exact hQ s₁.heap.objs.size _ _ h' (tk + 1) ⟨⟨_, rfl⟩, hx⟩ (.inl ⟨_, hT, rfl, _, rfl⟩)
            ⟨hit', hl', .inr ⟨_, s₁.heap.objs.size, false, _, (by rw [ec]; exact ho), hT, Nat.ne_of_gt (Heap.lt_size he), nit, Nat.ne_of_gt hds⟩⟩
            fun b o hb x => hk b o (fun y => hb (by simp [y])) (fun y => hb (by simp [y])) x
        · refine next_held he hT r1 r2 hit hl ex hei fun h' ho hit' hT' hsz hk => ?_
          exact hQ s₁.heap.objs.size _ _ h' (s₁.toks + 1) ⟨⟨_, rfl⟩, ex⟩ (.inl ⟨_, hT', rfl, _, rfl⟩)
            ⟨hit', hl.at fun o x => hk l o hle hli x, .inr ⟨old, T, true, oT, (by rw [ec]; exact ho), hk _ _ r1 r2 hT, r1, r2, r3⟩⟩
            fun b o hb x => hk b o (fun y => hb (by simp [y])) (fun y => hb (by simp [y])) x
      done := fun s₁ Q₁ E₁ st hQ => by
        obtain ⟨hit, hl, he⟩ := st
        have hx : items[items.size]? = none := Array.getElem?_eq_none (Nat.le_refl _)
        rcases he with ⟨old, he⟩ | ⟨old, T, f, oT, he, hT, r1, r2, r3⟩
        · exact wpAny_pyNext_enum_endD (Draws.tuple (by exact hA) it l hli items) he ⟨hit, hl⟩ fun h' hk => hQ h' s₁.toks fun b o hb x => hk b o (fun y => hb (by simp [y])) x
        · exact end_held hA he hit hl hx fun h' hk => hQ h' s₁.toks fun b o hb x => hk b o (fun y => hb (by simp [y])) x }
end
end SptE

set_option Elab.async false
set_option linter.all false
set_option maxRecDepth 100000
set_option maxHeartbeats 4000000
/-! enumerate(a tuple), dict(enumerate(a tuple)): rules -/
namespace Spt
open PySem PySem.Spec PyProof.Rows L2
/-- the tuple at a, each item in a new pair -/
def ItET (K : PySem.W.Frag) (a : Addr) : It :=
  ⟨fun i H => ∃ (xs : List V) (x : V), SqT K H a xs ∧ xs[i]? = some x, fun i H v H' => ∃ T x, v = .ref T ∧ H T = none ∧ H' = upd H T (.tup [.int (i : Nat), x]) ∧ ∀ xs, SqT K H a xs → xs[i]? = some x, fun i H => ∃ xs : List V, SqT K H a xs ∧ xs.length ≤ i⟩
theorem turn_enumT {P : Program} {w : World} {K : PySem.W.Frag} {elts : List Expr} {kk : Nat} {tpos : Pos} (a e it : Addr) (hai : a ≠ it) :
    Turn P w K (.Tuple elts kk tpos) (ItET K a) [e, it] e (fun i h => (∃ old, IsEnum h e it ((i : Nat) : Int) old) ∧ h.IsTupleIter it a i ∧ e ≠ it ∧ a ≠ e) where
  mem := by simp
  obj := fun i h st b hb => by
    obtain ⟨⟨old, he⟩, ⟨o, ho, hc, hd⟩, _⟩ := st
    have e' : b = e ∨ b = it := by simpa using hb
    rcases e' with z | z
    · rw [z]; exact ⟨_, he, fun v q => nomatch q⟩
    · rw [z]; exact ⟨o, ho, fun v q => by rw [hd] at q; cases q⟩
  keep := fun i h h' st k => let ⟨⟨old, he⟩, hi, hne, hae⟩ := st; ⟨⟨old, k e (by simp) _ he⟩, hi.at fun o q => k it (by simp) o q, hne, hae⟩
  item := by
    intro X hP hw hK hc i pins s σ H E I hf st hg
    subst hP hw hK
    obtain ⟨⟨old, he⟩, hit, hne, hae⟩ := st
    obtain ⟨xs, x, hq, hx⟩ := hg
    obtain ⟨its, rv, p, hz⟩ := I.tuple hq
    obtain ⟨u, hu, ru⟩ := rv.get hx
    have hel : e < s.heap.objs.size := Heap.lt_size he
    have hil : it < s.heap.objs.size := by obtain ⟨_, q, _⟩ := hit; exact Heap.lt_size q
    have hlen : i < its.toArray.size := by
      have := (List.getElem?_eq_some_iff.mp hu).1
      simpa using this
    refine wpAny_pyNext_enum_itemD (Draws.tuple (prog := X.prog) (w := X.w) (A := X.A.in1) (I.ok.hd hc) it a hai its.toArray) he ⟨hit, p⟩ hlen hne (by simp [hne, Ne.symm hae]) fun u' h' tk hu' ho st' hT hsz hk => ?_
    obtain ⟨hit', _⟩ := st'
    have eu : u' = u := by
      have hu' : its.toArray[i]? = some u' := hu'
      rw [List.getElem?_toArray, hu] at hu'
      exact (Option.some.inj hu').symm
    subst eu
    refine ⟨_, rfl, wpAny_letOwnedTupleGo_enum (s := { s with heap := h', toks := tk + 1 }) ho fun h'' he' sb => ?_⟩
    have hT2 : h''.get? s.heap.objs.size = some { cls := .type "tuple", data := .seq #[.int i tk, u'] } := (sb.2 _ (Nat.ne_of_gt hel)).trans hT
    have new : ObjOk X.prog X.w (upd H s.heap.objs.size (.tup [.int (i : Nat), x])) h'' s.heap.objs.size (.tup [.int (i : Nat), x]) :=
      ⟨by show 2 ≤ sizeLine; decide, [.int i tk, u'], .cons ⟨_, rfl⟩ (.cons ru .nil), ⟨_, hT2, rfl, _, rfl⟩⟩
    have I1 : Inv X pins σ (upd H s.heap.objs.size (.tup [.int (i : Nat), x])) { s with heap := h'', toks := tk + 1 } :=
      I.turnedNew (ch := [e, it]) (fun b ob hb q => (sb.2 b (fun z => hb (by simp [z]))).trans (hk b ob (fun z => hb (by simp [z])) (fun z => hb (by simp [z])) q)) hf (Nat.le_refl _) new
    refine ⟨.ref s.heap.objs.size, _, I1, rfl, ⟨_, x, rfl, I.hok.fresh (Nat.le_refl _), rfl, fun ys hy => by rw [I.tuple_inj hy hq]; exact hx⟩, ⟨⟨u', ?_⟩, hit'.at fun o q => (sb.2 it (Ne.symm hne)).trans q, hne, hae⟩, fun b hb => ?_⟩
    · have e1 : ((i + 1 : Nat) : Int) = (i : Int) + 1 := by omega
      rw [e1]; exact he'
    · have hb' : b < s.heap.objs.size := by
        have e' : b = e ∨ b = it := by simpa using hb
        rcases e' with z | z
        · rw [z]; exact hel
        · rw [z]; exact hil
      rw [upd_ne (Nat.ne_of_lt hb')]
      exact (hf b hb).1
  done := by
    intro X hP hw hK hc i pins s σ H E I hf st hg
    subst hP hw hK
    obtain ⟨⟨old, he⟩, hit, hne, hae⟩ := st
    obtain ⟨xs, hq, hx⟩ := hg
    obtain ⟨its, rv, p, hz⟩ := I.tuple hq
    obtain ⟨f0, f1, f2, f3, f4, f5⟩ := hf it (by simp)
    have hl := rv.length
    have hT : s.TypeIs (.ref e) "enumerate" := ⟨_, he, rfl⟩
    unfold pyNext
    refine wpAny_bind (wpAny_attempt (wpAny_callSpecial?_slot (name := PySem.Str.ofString "__next__") hT F.slot_enumerate_next
      (wpAny_call_entry F.slot_enumerate_next hT F.entry_enumerate_next ?_ (F.args_enumerate_next_1 _))))
    show wpAny _ _ (field (.ref e) 2 >>= _) _ _ _
    refine wpAny_bind (wpAny_field he rfl (x := .ref it) rfl ?_)
    refine wpAny_bind (wpAny_nextOf_tuple_end (I.ok.hd hc) hit p (by simp; omega) fun h' x he' hx' => ?_)
    obtain ⟨o, ho, hc'⟩ := hx'
    refine wpAny_bind (wpAny_isInstance (T := "StopIteration") (b := true) ⟨o, ho, hc'⟩ isSubtype_stop ?_)
    exact wpAny_pure ⟨rfl, I.turned (t' := s.toks) (fun b o hb q => he' b o hb q) f0 f1 f3 f4 f5⟩
  self := fun A i s Q E st h => let ⟨⟨_, he⟩, _⟩ := st; wpAny_pyIter_enum he h
def iEnumT (K : PySem.W.Frag) (ta : TA) : TI := fun σ H R => ta σ H fun vs H1 => ∃ a xs, vs = [.ref a] ∧ SqT K H1 a xs ∧ R (ItET K a) H1
theorem pi_enumT {X : Cx} {e : Expr} {ta : TA} {p pos tpos : Pos} {elts : List Expr} {kk : Nat} (hg : Gl X "enumerate") (hm : X.mg "enumerate" = none) (ha : PA X [e] ta) (hs : starEach [e] X.env = [(false, eval e X.env)] := by rfl) :
    PI X (.Tuple elts kk tpos) (.Call (.Name "enumerate" p) [e] [] pos) (iEnumT X.K ta) := by
  refine ⟨fun pins s σ H R I h => ?_⟩
  refine Call_ (ld_blt I hg hm boot_enumerate (PyProof.Rows.callWith_type1 (thn (ha.run pos pins s σ H _ I h) fun us s1 ⟨vs, H1, I1, r1, q1⟩ => ?_) hs rfl))
  obtain ⟨a, xs, ex, hq, q⟩ := q1
  subst ex
  cases r1 with
  | cons r rr =>
    cases rr
    cases r
    obtain ⟨its, rv, p', hz⟩ := I1.tuple hq
    have hal : a < s1.heap.objs.size := by obtain ⟨o, ho, _⟩ := id p'; exact Heap.lt_size ho
    refine SptE.call_enumB (begins_tuple a its.toArray) p' fun h' he hit hsz hk => wpAny_pyIter_enum he ?_
    have I2 : Inv X pins σ H1 { s1 with heap := h' } := I1.kept (t' := s1.toks) hk
    refine ⟨s1.heap.objs.size + 1, [s1.heap.objs.size + 1, s1.heap.objs.size], _, _, H1, rfl, I2, turn_enumT a (s1.heap.objs.size + 1) s1.heap.objs.size (Nat.ne_of_lt hal), ⟨⟨.none, he⟩, ⟨_, hit, rfl, rfl⟩, Nat.succ_ne_self _, Nat.ne_of_lt (Nat.lt_succ_of_lt hal)⟩, fun b hb => ?_, q⟩
    have e' : b = s1.heap.objs.size + 1 ∨ b = s1.heap.objs.size := by simpa using hb
    have hle : s1.heap.objs.size ≤ b := by
      rcases e' with z | z
      · rw [z]; exact Nat.le_add_right _ _
      · rw [z]; exact Nat.le_refl _
    exact I1.fpOk hle (I1.hok.fresh hle)
/-- a loop over enumerate of a tuple -/
theorem for_enumT {K : PySem.W.Frag} {a : Addr} {xs : List V} {g : TG} {tb : TS} {D : Ends} {σ : L2.St} {H : Hp} (Pv : Nat → L2.St → Hp → Prop) (h0 : Pv 0 σ H) (hq : ∀ i σ H, Pv i σ H → SqT K H a xs)
    (hs : ∀ (i : Nat) (x : V) (T : Addr) (σ : L2.St) (H : Hp), xs[i]? = some x → Pv i σ H → H T = none → g (.ref T) σ (upd H T (.tup [.int (i : Nat), x])) fun σ2 H2 => tb { D with nx := Pv (i + 1), ct := Pv (i + 1), bk := D.nx } σ2 H2) (hd : ∀ σ H, Pv xs.length σ H → D.nx σ H) :
    ∃ W : Nat → Nat → L2.St → Hp → Prop, (∃ m, W 0 m σ H) ∧ ∀ i m σ H, W i m σ H →
      ((ItET K a).stop i H ∧ D.nx σ H) ∨ ((ItET K a).go i H ∧ ∃ N : L2.St → Hp → Prop, (∀ σ' H', N σ' H' → ∃ m', m' < m ∧ W (i + 1) m' σ' H') ∧ ∀ v H', (ItET K a).yld i H v H' → g v σ H' fun σ2 H2 => tb { D with nx := N, ct := N, bk := D.nx } σ2 H2) := by
  refine ⟨fun i m σ H => m = xs.length - i ∧ i ≤ xs.length ∧ Pv i σ H, ⟨xs.length, rfl, Nat.zero_le _, h0⟩, ?_⟩
  rintro i m σ H ⟨rfl, hi, p⟩
  have qx := hq i σ H p
  by_cases hlt : i < xs.length
  · have hx : xs[i]? = some xs[i] := List.getElem?_eq_getElem hlt
    refine .inr ⟨⟨xs, _, qx, hx⟩, Pv (i + 1), fun σ' H' p' => ⟨xs.length - (i + 1), by omega, rfl, hlt, p'⟩, fun v H' y => ?_⟩
    obtain ⟨T, x', rfl, hT, rfl, f1⟩ := y
    exact hs i x' T σ H (f1 xs qx) p hT
  · have e : i = xs.length := by omega
    subst e
    exact .inl ⟨⟨xs, qx, Nat.le_refl _⟩, hd σ H p⟩
/-- .. of a list -/
theorem for_enumL {K : PySem.W.Frag} {a : Addr} {xs : List V} {g : TG} {tb : TS} {D : Ends} {σ : L2.St} {H : Hp} (Pv : Nat → L2.St → Hp → Prop) (h0 : Pv 0 σ H) (hq : ∀ i σ H, Pv i σ H → SqL K H a xs)
    (hs : ∀ (i : Nat) (x : V) (T : Addr) (σ : L2.St) (H : Hp), xs[i]? = some x → Pv i σ H → H T = none → g (.ref T) σ (upd H T (.tup [.int (i : Nat), x])) fun σ2 H2 => tb { D with nx := Pv (i + 1), ct := Pv (i + 1), bk := D.nx } σ2 H2) (hd : ∀ σ H, Pv xs.length σ H → D.nx σ H) :
    ∃ W : Nat → Nat → L2.St → Hp → Prop, (∃ m, W 0 m σ H) ∧ ∀ i m σ H, W i m σ H →
      ((Ite K a).stop i H ∧ D.nx σ H) ∨ ((Ite K a).go i H ∧ ∃ N : L2.St → Hp → Prop, (∀ σ' H', N σ' H' → ∃ m', m' < m ∧ W (i + 1) m' σ' H') ∧ ∀ v H', (Ite K a).yld i H v H' → g v σ H' fun σ2 H2 => tb { D with nx := N, ct := N, bk := D.nx } σ2 H2) := by
  refine ⟨fun i m σ H => m = xs.length - i ∧ i ≤ xs.length ∧ Pv i σ H, ⟨xs.length, rfl, Nat.zero_le _, h0⟩, ?_⟩
  rintro i m σ H ⟨rfl, hi, p⟩
  have qx := hq i σ H p
  by_cases hlt : i < xs.length
  · have hx : xs[i]? = some xs[i] := List.getElem?_eq_getElem hlt
    refine .inr ⟨⟨xs, _, qx, hx⟩, Pv (i + 1), fun σ' H' p' => ⟨xs.length - (i + 1), by omega, rfl, hlt, p'⟩, fun v H' y => ?_⟩
    obtain ⟨T, x', rfl, hT, rfl, f1⟩ := y
    exact hs i x' T σ H (f1 xs qx) p hT
  · have e : i = xs.length := by omega
    subst e
    exact .inl ⟨⟨xs, qx, Nat.le_refl _⟩, hd σ H p⟩
/-! dict(enumerate(a tuple)) -/
def numK (i : Nat) : Key := .inl (i : Int)
/-- a table from 0, 1, .. -/
def enK (i : Nat) : List V → List (Key × V)
  | [] => []
  | x :: xs => (numK i, x) :: enK (i + 1) xs
theorem enK_len : ∀ (i : Nat) (xs : List V), (enK i xs).length = xs.length
  | _, [] => rfl
  | i, x :: xs => by show (enK (i + 1) xs).length + 1 = _; rw [enK_len]; rfl
theorem numK_inj {i j : Nat} (h : numK i = numK j) : i = j := by
  unfold numK at h
  injection h with h
  omega
theorem enK_lt : ∀ (i : Nat) (xs : List V) (p : Key × V), p ∈ enK i xs → ∃ j, i ≤ j ∧ p.1 = numK j
  | _, [], p, h => nomatch h
  | i, x :: xs, p, h => by
    rcases List.mem_cons.mp h with e | h
    · exact ⟨i, Nat.le_refl _, by rw [e]⟩
    · obtain ⟨j, h1, h2⟩ := enK_lt (i + 1) xs p h
      exact ⟨j, by omega, h2⟩
theorem merge_en : ∀ (i : Nat) (xs : List V) (acc : List (Key × V)), (∀ p ∈ acc, ∃ j, j < i ∧ p.1 = numK j) → mergeK acc (enK i xs) = acc ++ enK i xs
  | _, [], acc, _ => (List.append_nil acc).symm
  | i, x :: xs, acc, h => by
    have e1 : putK acc (numK i) x = acc ++ [(numK i, x)] := by
      unfold putK
      rw [if_neg]
      intro z
      obtain ⟨p, hp, e⟩ := List.any_eq_true.mp z
      obtain ⟨j, hj, e2⟩ := h p hp
      have := numK_inj (e2.symm.trans (of_decide_eq_true e))
      omega
    show mergeK (putK acc (numK i) x) (enK (i + 1) xs) = _
    rw [e1, merge_en (i + 1) xs (acc ++ [(numK i, x)])]
    · rw [List.append_assoc]; rfl
    · intro p hp
      rcases List.mem_append.mp hp with hp | hp
      · obtain ⟨j, h1, h2⟩ := h p hp
        exact ⟨j, by omega, h2⟩
      · rw [List.mem_singleton.mp hp]
        exact ⟨i, by omega, rfl⟩
def enR (i : Nat) : List Value → List (Key × Value)
  | [] => []
  | x :: xs => (numK i, x) :: enR (i + 1) xs
theorem enR_len : ∀ (i : Nat) (xs : List Value), (enR i xs).length = xs.length
  | _, [] => rfl
  | i, x :: xs => by show (enR (i + 1) xs).length + 1 = _; rw [enR_len]; rfl
theorem enR_get : ∀ (i : Nat) (xs : List Value) (j : Nat) (v : Value), xs[j]? = some v → (enR i xs)[j]? = some (numK (i + j), v)
  | _, [], _, _, h => by simp at h
  | i, x :: xs, 0, v, h => by
    simp only [List.getElem?_cons_zero, Option.some.injEq] at h
    subst h
    rfl
  | i, x :: xs, j + 1, v, h => by
    have := enR_get (i + 1) xs j v (by simpa using h)
    show (enR (i + 1) xs)[j]? = _
    rw [this, Nat.add_right_comm]
    rfl
theorem enK_rel : ∀ (i : Nat) {xs : List V} {us : List Value}, Vals xs us → KV (enK i xs) (enR i us)
  | _, _, _, .nil => .nil
  | i, _, _, .cons r rr => .cons ⟨rfl, r⟩ (enK_rel (i + 1) rr)
theorem isT_keep {h h' : Heap} {a : Addr} {its : Array Value} (p : IsTup h a its) (k : ∀ b o, h.get? b = some o → h'.get? b = some o) : IsTup h' a its := by
  obtain ⟨o, ho, r⟩ := p
  exact ⟨o, k _ _ ho, r⟩
def tDictEnum (K : PySem.W.Frag) (ta : TA) : TE := fun σ H Q => ta σ H fun vs H1 => ∃ (a : Addr) (xs : List V), vs = [.ref a] ∧ SqT K H1 a xs ∧ ∀ p, H1 p = none → Q (.ref p) (upd H1 p (.dK (enK 0 xs)))
theorem pe_dictEnum {X : Cx} {e : Expr} {ta : TA} {p pos p2 pos2 : Pos} (hc : X.calm = true) (hg1 : Gl X "dict") (hm1 : X.mg "dict" = none) (hg : Gl X "enumerate") (hm : X.mg "enumerate" = none) (ha : PA X [e] ta)
    (hs : starEach [e] X.env = [(false, eval e X.env)] := by rfl) (na : starEach [.Call (.Name "enumerate" p2) [e] [] pos2] X.env = (false, eval (.Call (.Name "enumerate" p2) [e] [] pos2) X.env) :: starEach [] X.env := by rfl) (hb : bootBuiltins "dict" = some (.type "dict") := by decide +kernel) :
    PE X (.Call (.Name "dict" p) [.Call (.Name "enumerate" p2) [e] [] pos2] [] pos) (tDictEnum X.K ta) := by
  refine ⟨fun pins s σ H Q I h => ?_⟩
  refine Call_ (ld_blt I hg1 hm1 hb (PyProof.Rows.callWith_type1 (args_cons (Call_ (ld_blt I hg hm boot_enumerate (PyProof.Rows.callWith_type1 (thn (ha.run pos2 pins s σ H _ I h) fun us s1 ⟨vs, H1, I1, r1, q1⟩ => ?_) hs rfl))) na) na))
  obtain ⟨a, xs, ex, hq, q⟩ := q1
  subst ex
  cases r1 with
  | cons r rr =>
    cases rr
    cases r
    obtain ⟨its, rv, p', hz⟩ := I1.tuple hq
    have hal : a < s1.heap.objs.size := by obtain ⟨o, ho, _⟩ := id p'; exact Heap.lt_size ho
    refine SptE.call_enumB (begins_tuple a its.toArray) p' fun h' he hit hsz hk => args_nil ?_
    have I2 : Inv X pins σ H1 { s1 with heap := h' } := I1.kept (t' := s1.toks) hk
    have hl := rv.length
    refine PySem.call_dict_pairs (s := { s1 with heap := h' }) (knd := mixKind X.prog X.w) (kvs := enR 0 its) (SptE.enumArg (s1.heap.objs.size + 1) s1.heap.objs.size a (Nat.succ_ne_self _) (Nat.ne_of_lt (Nat.lt_succ_of_lt hal)) (Nat.ne_of_lt hal) its.toArray) (I2.ok.hd hc) ⟨⟨.none, he⟩, ⟨_, hit, rfl, rfl⟩, isT_keep p' hk⟩ ⟨by rw [enR_len]; simp, fun i key v hr => ?_⟩ (by simp; omega) fun h2 tk hd hk2 => ?_
    · obtain ⟨⟨t, rfl⟩, hv⟩ := hr
      refine ⟨numK i, ?_, keyIs_int _ t⟩
      have := enR_get 0 its i v (by simpa using hv)
      rw [Nat.zero_add] at this
      exact this
    · have hm : (h'.objs.size == sysModules) = false := beq_eq_false_iff_ne.mpr (Nat.ne_of_gt (Nat.lt_of_lt_of_le I1.big (by omega)))
      have rel := enK_rel 0 rv
      have em : mergeK [] (enK 0 xs) = enK 0 xs := merge_en 0 xs [] (fun _ h => nomatch h)
      have kp : ∀ b o, s1.heap.get? b = some o → h2.get? b = some o := fun b o e => by
        have hb := Heap.lt_size e
        exact hk2 b o (by
          have h1 : b ≠ s1.heap.objs.size + 1 := Nat.ne_of_lt (Nat.lt_succ_of_lt hb)
          have h2 : b ≠ s1.heap.objs.size := Nat.ne_of_lt hb
          simp [h1, h2]) (hk b o e)
      have J : Inv X pins σ H1 { s1 with heap := h2, toks := tk } := I1.kept (t' := tk) kp
      have new : ObjOk X.prog X.w (upd H1 h'.objs.size (.dK (enK 0 xs))) h2 h'.objs.size (.dK (enK 0 xs)) :=
        ⟨by rw [enK_len]; omega, hm, merged [] (enR 0 its), by rw [← em]; exact KV.merge rel .nil, hd⟩
      exact ⟨.ref h'.objs.size, upd H1 h'.objs.size (.dK (enK 0 xs)), I1.laid (t' := tk) kp (by omega) new, rfl, q _ (I1.hok.fresh (by omega))⟩
end Spt

set_option Elab.async false
set_option linter.all false
set_option maxRecDepth 100000
set_option maxHeartbeats 4000000
/-! nets.py: Net.__init__; growing.py: the small methods -/
namespace Spt
open PySem PySem.Spec PyProof.Rows L2
theorem blT {p : Prop} [Decidable p] (h : p) : V.bl (decide p) = V.bl true := by rw [decide_eq_true h]
theorem blF {p : Prop} [Decidable p] (h : ¬ p) : V.bl (decide p) = V.bl false := by rw [decide_eq_false h]
theorem lk1 {f : Str} {v : V} {fs : List (Str × V)} : (putF f v fs).lookup f = some v := by rw [lookup_putF, if_pos rfl]
theorem lk2 {f g : Str} {v : V} {fs : List (Str × V)} (h : g ≠ f) : (putF f v fs).lookup g = fs.lookup g := by rw [lookup_putF, if_neg h]
theorem EBut.trans {D : Addr} {H H1 H2 : Hp} (a : EBut D H H1) (b : EBut D H1 H2) : EBut D H H2 := fun x o n e => b x o n (a x o n e)
theorem EBut.upd {D : Addr} {H H1 : Hp} {o : HO} (a : EBut D H H1) : EBut D H (upd H1 D o) := fun x u n e => by rw [upd_ne n]; exact a x u n e
theorem LinksO.mono {H H' : Hp} {lt : Addr} {es : List (Nat × Nat)} (f : ∀ a xs, H a = some (.tup xs) → H' a = some (.tup xs)) (h : LinksO H lt es) : LinksO H' lt es := by
  obtain ⟨as, h1, h2⟩ := h
  exact ⟨as, f _ _ h1, Paired.imp (fun a b q => f _ _ q) h2⟩
section
variable {P : Program} {w : World} {K : PySem.W.Frag} {mg : Str → Option Value} {base : Heap}
/-! Net.__init__ -/
theorem scNetInit : FnScope ["self", "many", "root", "links", "number", "link"] ["self", "many", "root", "links"] (defScope sCNetInit) := ⟨rfl, rfl, rfl, by decide +kernel, rfl, by decide +kernel, by decide +kernel⟩
def spNetInit (K : PySem.W.Frag) : Sp := fun vs H Q _ => ∃ (x dx lt : Addr) (n root : Nat) (es : List (Nat × Nat)), vs = [.ref x, vn n, vn root, .ref lt] ∧ H x = some (.ins (He.ga K "Net") dx []) ∧ 2 ≤ n ∧ n ≤ 10 ∧ root < n ∧ LinksO H lt es ∧ Links n es ∧ es.length ≤ 60 ∧ ∀ H', EBut x H H' → NetO K H' x n root lt → Q .non H'
theorem okNetInit (T : Txt K mg) : FnK P w K mg base CX0 4 (He.ma K (He.ga K "Net") "__init__") ["self", "many", "root", "links"] (spNetInit K) := by
  refine FnK.of T.d_CNetInit scNetInit (fun _ _ _ _ _ _ us hl => match us, hl with | [_, _, _, _], _ => rfl) (fun vs H Q E h => ?_) (fun cdv A outer s H vs Q E hr h => ?_)
  · obtain ⟨x, dx, lt, n, root, es, rfl, _⟩ := h
    rfl
  · obtain ⟨x, dx, lt, n, root, es, rfl, hx, h2, h10, hroot, hlt, hes, hz, k⟩ := h
    obtain ⟨as, hl1, hl2⟩ := id hlt
    have hlen : as.length = es.length := Paired.len hl2
    refine ⟨_, pss_cons (ps_if (pt_not (pt_val (cl ((okIsWithin T).mono (by decide)) hr T.g_is_within (a3 (pv 1) (gint T.i_LEAST_PLACES) (gint T.i_MOST_PLACES))))) pss_never pss_nil)
      (pss_cons (ps_if (pt_not (pt_val (cl ((okIsWithin T).mono (by decide)) hr T.g_is_within (a3 (pv 2) pe_int (pe_op op_sub (pv 1) pe_int))))) pss_never pss_nil)
      (pss_cons (ps_if (PW.pt (pw_or (pt_not (pt_val (cb call_isTy T.f_isinstance (a2 (pv 3) (bty "tuple" T.f_tuple))))) (pw_or1 (pt_cmpR op_gt (cb call_len T.f_len (a1 (pv 3))) (gint T.i_MOST_LINKS) (nomark _))))) pss_never pss_nil)
      (pss_cons (ps_for PassesOwn.never rfl (pi_enumT rfl T.f_enumerate (a1 (pv 3))) (pg_tup rfl (pgs_cons (pg_name (i := 4) scNetInit.nd rfl (.inl rfl)) (pgs_cons (pg_name (i := 5) scNetInit.nd rfl (.inl rfl)) pgs_nil)))
        (pss_one (ps_if (pt_not (pt_val (cl (okIsLink T) hr T.g_is_link (a2 (pv 1) (pv 5))))) pss_never pss_nil)))
      (pss_cons (ps_fld (pv 0) (pv 1) rfl) (pss_cons (ps_fld (pv 0) (pv 2) rfl) (pss_one (ps_fld (pv 0) (pv 3) rfl))))))), ?_⟩
    refine ⟨_, rfl, _, _, _, rfl, true, by rw [decide_eq_true (show (2 : Int) ≤ (n : Int) ∧ (n : Int) ≤ 10 by omega)], ?_⟩
    refine iteF ?_
    refine ⟨_, rfl, _, rfl, _, _, rfl, rfl, _, _, _, rfl, true, by rw [decide_eq_true (show (0 : Int) ≤ (root : Int) ∧ (root : Int) ≤ (n : Int) - 1 by omega)], ?_⟩
    refine iteF ?_
    refine ⟨_, rfl, _, _, _, _, rfl, .base (.tup hl1), (by decide +kernel : kitB "tuple" "tuple" = some true), true, rfl, ?_⟩
    refine iteF ?_
    refine ⟨_, rfl, _, as.length, rfl, .inr ⟨_, SqT.of hl1, by rw [List.length_map]⟩, _, _, rfl, rfl, ?_⟩
    refine ⟨false, blF (show ¬ ((60 : Int) < (as.length : Int)) by omega), ?_⟩
    refine iteF ?_
    refine ⟨_, rfl, lt, _, rfl, SqT.of hl1, for_enumT (K := K) (a := lt) (xs := as.map V.ref) (fun i σ H' => Same H H' ∧ ∃ u v : Option V, σ = [some (.ref x), some (vn n), some (vn root), some (.ref lt), u, v])
      ⟨Same.refl _, none, none, rfl⟩ (fun i σ H' ⟨s1, _⟩ => SqT.of (s1 _ _ hl1)) ?_ ?_⟩
    · rintro i v T' σ H1 hi ⟨s1, u, v', rfl⟩ hT
      rw [List.getElem?_map] at hi
      obtain ⟨b, hb, rfl⟩ := Option.map_eq_some_iff.mp hi
      obtain ⟨e, he1, he2⟩ := Paired.get hl2 hb
      refine ⟨T', _, rfl, SqT.of upd_same, rfl, ?_⟩
      refine ⟨_, _, rfl, ?_⟩
      refine ⟨_, _, rfl, ?_⟩
      refine ⟨rfl, ?_⟩
      have hm := hes e (List.mem_of_getElem? he1)
      refine ⟨_, rfl, _, rfl, b, n, e.1, e.2, rfl, (same_new hT) _ _ (s1 _ _ he2), hm.1, hm.2.1, hm.2.2, fun H2 s2 => ⟨true, rfl, ?_⟩⟩
      exact iteF ⟨(s1.trans (same_new hT)).trans s2, _, _, rfl⟩
    · rintro σ H1 ⟨s1, u, v, rfl⟩
      refine ⟨_, rfl, _, rfl, x, _, dx, [], rfl, s1 _ _ hx, T.c_Net, T.n_many, by decide, ?_⟩
      refine ⟨_, rfl, _, rfl, x, _, dx, _, rfl, upd_same, T.c_Net, T.n_root, by refine Nat.lt_of_le_of_lt (length_putF _ _ _) ?_; decide, ?_⟩
      refine ⟨_, rfl, _, rfl, x, _, dx, _, rfl, upd_same, T.c_Net, T.n_links, ?_, ?_⟩
      · refine Nat.lt_of_le_of_lt (length_putF _ _ _) (Nat.lt_of_le_of_lt (Nat.succ_le_succ (length_putF _ _ _)) ?_)
        decide
      · refine k _ (((EBut.of s1).upd).upd.upd) ⟨dx, _, upd_same, ?_, ?_, lk1⟩
        · rw [lk2 (by decide), lk2 (by decide)]; exact lk1
        · rw [lk2 (by decide)]; exact lk1
end
end Spt

set_option Elab.async false
set_option linter.all false
set_option maxRecDepth 100000
set_option maxHeartbeats 4000000
/-! growing.py: bits; lots_entered, parts_apart, has_heard -/
namespace Spt
open PySem PySem.Spec PyProof.Rows L2
theorem bitAnd_nn (a b : Nat) : Builtin.bitAnd (a : Int) (b : Int) = ((a &&& b : Nat) : Int) := by
  unfold Builtin.bitAnd
  rw [decide_eq_true (Int.natCast_nonneg a), decide_eq_true (Int.natCast_nonneg b)]
  show (((a : Int).toNat &&& (b : Int).toNat : Nat) : Int) = _
  rw [Int.toNat_natCast, Int.toNat_natCast]
theorem shr_nn (m p : Nat) : (m : Int) / 2 ^ (p : Int).toNat = ((m / 2 ^ p : Nat) : Int) := by
  rw [Int.toNat_natCast, Int.natCast_ediv, Int.natCast_pow]
  rfl
theorem bit_is (m p : Nat) : Builtin.bitAnd ((m : Int) / 2 ^ (p : Int).toNat) 1 = if m.testBit p then 1 else 0 := by
  rw [shr_nn]
  have := bitAnd_nn (m / 2 ^ p) 1
  rw [show (((1 : Nat)) : Int) = 1 from rfl] at this
  rw [this, Nat.and_one_is_mod, Nat.testBit_eq_decide_div_mod_eq]
  by_cases c : m / 2 ^ p % 2 = 1
  · rw [decide_eq_true c, if_pos rfl, c]; rfl
  · rw [decide_eq_false c]
    have : m / 2 ^ p % 2 = 0 := by omega
    rw [this]
    rfl
theorem bit1 (m p : Nat) : decide (V.int (Builtin.bitAnd ((m : Int) / 2 ^ (p : Int).toNat) 1) = V.int 1) = m.testBit p := by
  rw [bit_is, dec_int]
  cases m.testBit p <;> decide
theorem bit0 (m p : Nat) : decide (V.int (Builtin.bitAnd ((m : Int) / 2 ^ (p : Int).toNat) 1) = V.int 0) = !m.testBit p := by
  rw [bit_is, dec_int]
  cases m.testBit p <;> decide
theorem and0 (a b : Nat) : decide (V.int (Builtin.bitAnd (a : Int) (b : Int)) = V.int 0) = (a &&& b == 0) := by
  rw [bitAnd_nn, dec_int]
  rw [Bool.eq_iff_iff]
  simp
theorem SqL_at {K : PySem.W.Frag} {H : Hp} {a : Addr} {xs : List V} (h : H a = some (.lst xs)) : SqL K H a xs := SqL.of h
/-- the lots that a link enters, by number -/
def intoOf (ms : List Nat) (e : Nat × Nat) : List Nat := (List.range ms.length).filter fun k => enters e (ms.getD k 0)
theorem getD_of {α : Type} {l : List α} {i : Nat} {x d : α} (h : l[i]? = some x) : l.getD i d = x := by
  rw [List.getD_eq_getElem?_getD, h]; rfl
theorem filter_range_succ (i : Nat) (p : Nat → Bool) : (List.range (i + 1)).filter p = (List.range i).filter p ++ if p i then [i] else [] := by
  rw [List.range_succ, List.filter_append]
  cases h : p i <;> simp [h]
section
variable {P : Program} {w : World} {K : PySem.W.Frag} {mg : Str → Option Value} {base : Heap}
/-! lots_entered -/
theorem scLotsEntered : FnScope ["self", "link", "one", "other", "found", "at", "mask"] ["self", "link"] (defScope sCGrowingLotsEntered) := ⟨rfl, rfl, rfl, by decide +kernel, rfl, by decide +kernel, by decide +kernel⟩
def spLotsEntered (K : PySem.W.Frag) : Sp := fun vs H Q _ => ∃ (g dx lt lm : Addr) (fs : List (Str × V)) (i : Nat) (es : List (Nat × Nat)) (e : Nat × Nat) (ms : List Nat), vs = [.ref g, vn i] ∧ H g = some (.ins (He.ga K "Growing") dx fs) ∧ fs.lookup ("kept_ends" : Str) = some (.ref lt) ∧ fs.lookup ("kept_masks" : Str) = some (.ref lm) ∧
  LinksO H lt es ∧ es[i]? = some e ∧ H lm = some (.lst (vns ms)) ∧ ms.length ≤ 5000 ∧ ∀ (H' : Hp) (D : Addr), Same H H' → H D = none → H' D = some (.lst (vns (intoOf ms e))) → Q (.ref D) H'
theorem okLotsEntered (T : Txt K mg) : FnK P w K mg base CX0 1 (He.ma K (He.ga K "Growing") "lots_entered") ["self", "link"] (spLotsEntered K) := by
  refine FnK.of T.d_CGrowingLotsEntered scLotsEntered (fun _ _ _ _ _ _ us hl => match us, hl with | [_, _], _ => rfl) (fun vs H Q E h => ?_) (fun cdv A outer s H vs Q E hr h => ?_)
  · obtain ⟨g, dx, lt, lm, fs, i, es, e, ms, rfl, _⟩ := h
    rfl
  · obtain ⟨g, dx, lt, lm, fs, i, es, e, ms, rfl, hg, f1, f2, hlt, he, hlm, hz, k⟩ := h
    obtain ⟨xs, a, hx, hxi, ha⟩ := hlt.get he
    refine ⟨_, pss_cons (ps_asg (pe_ix ix_tup (pe_fld (pv 0) rfl) (pv 1) (fun _ _ => rfl)) (pg_tup rfl (pgs_cons (pg_name (i := 2) scLotsEntered.nd rfl (.inl rfl)) (pgs_cons (pg_name (i := 3) scLotsEntered.nd rfl (.inl rfl)) pgs_nil))))
      (pss_cons (ps_set (i := 4) scLotsEntered.nd rfl (.inl rfl) (pe_lst pa_nil))
      (pss_cons (ps_for PassesOwn.never rfl (pi_enum rfl T.f_enumerate (a1 (pe_fld (pv 0) rfl))) (pg_tup rfl (pgs_cons (pg_name (i := 5) scLotsEntered.nd rfl (.inl rfl)) (pgs_cons (pg_name (i := 6) scLotsEntered.nd rfl (.inl rfl)) pgs_nil)))
        (pss_one (ps_if (PW.pt (pw_and (pt_cmpR op_eq (pe_op op_and (pe_op op_shr (pv 6) (pv 3)) pe_int) pe_int (nomark _)) (pw_and1 (pt_cmpR op_eq (pe_op op_and (pe_op op_shr (pv 6) (pv 2)) pe_int) pe_int (nomark _)))))
          (pss_one (ps_expr (pe_bm PySem.F.plainAttrs_list PySem.F.slot_list_append PySem.F.type_list_append mt_append (pv 4) (a1 (pv 5))))) pss_nil)))
      (pss_one (ps_ret (pv 4))))), ?_⟩
    refine ⟨_, rfl, g, _, dx, fs, _, rfl, hg, T.c_Growing, T.n_kept_ends, f1, _, rfl, _, _, _, _, rfl, rfl, SqT.of hx, atI_nat hxi, ?_⟩
    refine ⟨a, _, rfl, SqT.of ha, rfl, ?_⟩
    refine ⟨_, _, rfl, _, _, rfl, rfl, ?_⟩
    refine ⟨by show 0 ≤ sizeLine; omega, fun D hD => ?_⟩
    refine ⟨_, rfl, g, _, dx, fs, _, rfl, same_new hD _ _ hg, T.c_Growing, T.n_kept_masks, f2, ?_⟩
    refine ⟨lm, _, rfl, SqL.of (same_new hD _ _ hlm), for_enumL (K := K) (a := lm) (xs := vns ms) (fun j σ H' => Same H H' ∧ H' lm = some (.lst (vns ms)) ∧ H' D = some (.lst (vns ((List.range j).filter fun k => enters e (ms.getD k 0)))) ∧ ∃ u v : Option V, σ = [some (.ref g), some (vn i), some (vn e.1), some (vn e.2), some (.ref D), u, v])
      ⟨same_new hD, same_new hD _ _ hlm, upd_same, none, none, rfl⟩ (fun j σ H' h => SqL.of h.2.1) ?_ ?_⟩
    · rintro j x T' σ H1 hj ⟨s1, m1, d1, u, v, rfl⟩ hT
      obtain ⟨m, hm, rfl⟩ := vns_get hj
      have hT1 : Same H1 (upd H1 T' (.tup [.int (j : Nat), vn m])) := same_new hT
      refine ⟨T', _, rfl, SqT.of upd_same, rfl, ?_⟩
      refine ⟨_, _, rfl, _, _, rfl, rfl, ?_⟩
      have hjl : j < 5000 := by
        have := (List.getElem?_eq_some_iff.mp hm).1
        omega
      have hd : D ≠ T' := ne_of_none d1 hT
      have fin0 : enters e m = false → (fun σ H' => Same H H' ∧ H' lm = some (.lst (vns ms)) ∧ H' D = some (.lst (vns ((List.range (j + 1)).filter fun k => enters e (ms.getD k 0)))) ∧ ∃ u v : Option V, σ = [some (.ref g), some (vn i), some (vn e.1), some (vn e.2), some (.ref D), u, v]) [some (.ref g), some (vn i), some (vn e.1), some (vn e.2), some (.ref D), some (.int (j : Nat)), some (vn m)] (upd H1 T' (.tup [.int (j : Nat), vn m])) := fun c => by
        refine ⟨s1.trans hT1, hT1 _ _ m1, ?_, _, _, rfl⟩
        rw [hT1 _ _ d1, filter_range_succ, getD_of hm, c]
        simp
      refine ⟨_, rfl, _, rfl, _, _, rfl, rfl, Int.natCast_nonneg _, _, _, rfl, rfl, rfl, ?_⟩
      refine ⟨_, rfl, ?_⟩
      show if decide (V.int (Builtin.bitAnd ((m : Int) / 2 ^ (e.2 : Int).toNat) 1) = V.int 1) = true then _ else _
      rw [bit1]
      cases c2 : m.testBit e.2 with
      | false =>
        refine iteF ?_
        refine iteF ?_
        exact fin0 (by unfold enters; rw [c2]; rfl)
      | true =>
        refine iteT ?_
        refine ⟨_, rfl, _, rfl, _, _, rfl, rfl, Int.natCast_nonneg _, _, _, rfl, rfl, rfl, ?_⟩
        refine ⟨_, rfl, ?_⟩
        show if decide (V.int (Builtin.bitAnd ((m : Int) / 2 ^ (e.1 : Int).toNat) 1) = V.int 0) = true then _ else _
        rw [bit0]
        cases c1 : m.testBit e.1 with
        | true =>
          refine iteF ?_
          exact fin0 (by unfold enters; rw [c1, c2]; rfl)
        | false =>
          refine iteT ?_
          refine ⟨_, rfl, .inl ⟨rfl, _, SqL.of (hT1 _ _ d1)⟩, _, rfl, D, _, _, rfl, rfl, hT1 _ _ d1, ?_, ?_⟩
          · rw [vns_len, sizeLine_eq]
            have := List.length_filter_le (fun k => enters e (ms.getD k 0)) (List.range j)
            rw [List.length_range] at this
            omega
          · refine ⟨same_mut (s1.trans hT1) hD, ?_, ?_, _, _, rfl⟩
            · rw [upd_ne (ne_of_none hlm hD)]; exact hT1 _ _ m1
            · rw [upd_same, filter_range_succ, getD_of hm]
              have : enters e m = true := by unfold enters; rw [c1, c2]; rfl
              rw [this]
              unfold vns
              rw [List.map_append]
              rfl
    · rintro σ H1 ⟨s1, m1, d1, u, v, rfl⟩
      rw [vns_len] at d1
      exact ⟨_, rfl, k H1 D s1 hD d1⟩
end
end Spt

set_option Elab.async false
set_option linter.all false
/-! a list of ints, less one at some places -/
namespace Spt
def decIf (c : Nat → Bool) (ev : List Int) : List Int := ev.mapIdx fun k x => x - if c k then 1 else 0
theorem decIf_len (c : Nat → Bool) (ev : List Int) : (decIf c ev).length = ev.length := List.length_mapIdx
theorem decIf_get (c : Nat → Bool) (ev : List Int) (k : Nat) : (decIf c ev)[k]? = ev[k]?.map fun x => x - if c k then 1 else 0 := by
  unfold decIf
  rw [List.getElem?_mapIdx]
theorem decIf_none {c : Nat → Bool} {ev : List Int} (h : ∀ k, k < ev.length → c k = false) : decIf c ev = ev := by
  refine List.ext_getElem? fun k => ?_
  rw [decIf_get]
  cases e : ev[k]? with
  | none => rfl
  | some x =>
    have := h k (List.getElem?_eq_some_iff.mp e).1
    simp [this]
theorem decIf_congr {c c' : Nat → Bool} {ev : List Int} (h : ∀ k, k < ev.length → c k = c' k) : decIf c ev = decIf c' ev := by
  refine List.ext_getElem? fun k => ?_
  rw [decIf_get, decIf_get]
  cases e : ev[k]? with
  | none => rfl
  | some x => rw [h k (List.getElem?_eq_some_iff.mp e).1]
theorem decIf_set {c c' : Nat → Bool} {ev : List Int} {j : Nat} {x : Int} (hx : ev[j]? = some x) (h0 : c j = false) (h1 : c' j = true) (h : ∀ k, k ≠ j → c' k = c k) : (decIf c ev).set j (x - 1) = decIf c' ev := by
  refine List.ext_getElem? fun k => ?_
  rw [List.getElem?_set, decIf_len, decIf_get, decIf_get]
  have hj := (List.getElem?_eq_some_iff.mp hx).1
  by_cases e : j = k
  · subst e
    rw [if_pos rfl, if_pos hj, hx, Option.map_some, h1, if_pos rfl]
  · rw [if_neg e, h k (Ne.symm e)]
theorem decIf_at {c : Nat → Bool} {ev : List Int} {j : Nat} {x : Int} (hx : ev[j]? = some x) (h0 : c j = false) : (decIf c ev)[j]? = some x := by
  rw [decIf_get, hx, Option.map_some, h0]
  simp
/-- entered, behind a use less -/
theorem decIf_ent {es : List (Nat × Nat)} {us : List Nat} {i u : Nat} {e : Nat × Nat} {ms : List Nat} {c : Nat → Bool} (h0 : 0 < u) (he : es[i]? = some e) (hu : us[i]? = some u) (hc : ∀ k m, ms[k]? = some m → c k = enters e m) :
    decIf c (ms.map (ent es us)) = ms.map (ent es (us.set i (u - 1))) := by
  refine List.ext_getElem? fun k => ?_
  rw [decIf_get, List.getElem?_map, List.getElem?_map]
  cases em : ms[k]? with
  | none => rfl
  | some m =>
    simp only [Option.map_some]
    rw [ent_set h0 m he hu, hc k m em]
theorem decIf_need {hs : List Nat} {p R b : Nat} {ms : List Nat} {c : Nat → Bool} (hp : hs[p]? = some R) (hb : R.testBit b = false) (hc : ∀ k m, ms[k]? = some m → c k = (m.testBit b && (m &&& R == 0))) :
    decIf c (ms.map (need hs)) = ms.map (need (hs.set p (R + 2 ^ b))) := by
  refine List.ext_getElem? fun k => ?_
  rw [decIf_get, List.getElem?_map, List.getElem?_map]
  cases em : ms[k]? with
  | none => rfl
  | some m =>
    simp only [Option.map_some]
    rw [need_step m hp hb, hc k m em]
    congr 2
    by_cases d : m.testBit b = true ∧ m &&& R = 0
    · rw [if_pos d, d.1, d.2]; rfl
    · rw [if_neg d, if_neg]
      intro z
      rw [Bool.and_eq_true, beq_iff_eq] at z
      exact d z
end Spt

set_option Elab.async false
set_option linter.all false
set_option maxRecDepth 100000
set_option maxHeartbeats 4000000
/-! growing.py: parts_apart, has_heard, lacking -/
namespace Spt
open PySem PySem.Spec PyProof.Rows L2
theorem need_len (hs : List Nat) (m : Nat) : need hs m = ((hs.filter fun h => h &&& m == 0).length : Int) := rfl
section
variable {P : Program} {w : World} {K : PySem.W.Frag} {mg : Str → Option Value} {base : Heap}
/-! parts_apart -/
theorem scPartsApart : FnScope ["self", "mask", "heard"] ["self", "mask"] (defScope sCGrowingPartsApart) := ⟨rfl, rfl, rfl, by decide +kernel, rfl, by decide +kernel, by decide +kernel⟩
def spPartsApart (K : PySem.W.Frag) : Sp := fun vs H Q _ => ∃ (g dx lh : Addr) (fs : List (Str × V)) (m : Nat) (hs : List Nat), vs = [.ref g, vn m] ∧ H g = some (.ins (He.ga K "Growing") dx fs) ∧ fs.lookup ("kept_heard" : Str) = some (.ref lh) ∧ H lh = some (.lst (vns hs)) ∧ hs.length ≤ 1000 ∧ ∀ H', Same H H' → Q (.int (need hs m)) H'
theorem okPartsApart (T : Txt K mg) : FnK P w K mg base CX0 1 (He.ma K (He.ga K "Growing") "parts_apart") ["self", "mask"] (spPartsApart K) := by
  refine FnK.of T.d_CGrowingPartsApart scPartsApart (fun _ _ _ _ _ _ us hl => match us, hl with | [_, _], _ => rfl) (fun vs H Q E h => ?_) (fun cdv A outer s H vs Q E hr h => ?_)
  · obtain ⟨g, dx, lh, fs, m, hs, rfl, _⟩ := h
    rfl
  · obtain ⟨g, dx, lh, fs, m, hs, rfl, hg, f1, hlh, hz, k⟩ := h
    refine ⟨_, pss_one (ps_ret (cb call_len T.f_len (a1 (lct 2 (pi_list (pe_fld (pv 0) rfl)) (fun _ _ _ _ _ => pt_cmpR op_eq (pe_op op_and (pv 2) (pv 1)) pe_int (nomark _)) (fun _ _ _ _ _ => pv 2) scPartsApart)))), ?_⟩
    refine ⟨_, rfl, g, _, dx, fs, _, rfl, hg, T.c_Growing, T.n_kept_heard, f1, lh, rfl, ⟨_, SqL.of hlh⟩, fun D hD => ?_⟩
    refine comp_list (K := K) hs vn (fun h => h &&& m == 0) (fun _ x y => y = vn x) hD (SqL.of hlh) (sz64 (by omega)) (fun _ _ _ _ _ h => h) (fun _ => rfl) (fun x _ H1 s1 Qb q => ?_) (fun x _ _ H1 s1 _ Qv q => ⟨_, rfl, q _ H1 (Same.refl _) rfl⟩) (fun H1 ys s1 d1 r => ?_)
    · refine ⟨_, rfl, _, rfl, _, _, rfl, rfl, rfl, _, rfl, ?_⟩
      show Qb (decide (V.int (Builtin.bitAnd (x : Int) (m : Int)) = V.int 0)) H1
      rw [and0]
      exact q H1 (Same.refl _)
    · have e := Paired.eq_map r
      subst e
      refine ⟨_, (hs.filter fun h => h &&& m == 0).length, rfl, .inl ⟨_, SqL.of d1, by rw [List.length_map]⟩, ?_⟩
      exact k H1 s1
/-! has_heard -/
theorem scHasHeard : FnScope ["self", "part", "place"] ["self", "part", "place"] (defScope sCGrowingHasHeard) := ⟨rfl, rfl, rfl, by decide +kernel, rfl, by decide +kernel, by decide +kernel⟩
def spHasHeard (K : PySem.W.Frag) : Sp := fun vs H Q _ => ∃ (g dx lh : Addr) (fs : List (Str × V)) (p v R : Nat) (hs : List Nat), vs = [.ref g, vn p, vn v] ∧ H g = some (.ins (He.ga K "Growing") dx fs) ∧ fs.lookup ("kept_heard" : Str) = some (.ref lh) ∧ H lh = some (.lst (vns hs)) ∧ hs[p]? = some R ∧ Q (.bl (R.testBit v)) H
theorem okHasHeard (T : Txt K mg) : FnK P w K mg base CX0 1 (He.ma K (He.ga K "Growing") "has_heard") ["self", "part", "place"] (spHasHeard K) := by
  refine FnK.of T.d_CGrowingHasHeard scHasHeard (fun _ _ _ _ _ _ us hl => match us, hl with | [_, _, _], _ => rfl) (fun vs H Q E h => ?_) (fun cdv A outer s H vs Q E hr h => ?_)
  · obtain ⟨g, dx, lh, fs, p, v, R, hs, rfl, _⟩ := h
    rfl
  · obtain ⟨g, dx, lh, fs, p, v, R, hs, rfl, hg, f1, hlh, hp, k⟩ := h
    refine ⟨_, pss_one (ps_ret (pe_cmpR op_eq (pe_op op_and (pe_op op_shr (pe_ix ix_list (pe_fld (pv 0) rfl) (pv 1) (fun _ _ => rfl)) (pv 2)) pe_int) pe_int (nomark _))), ?_⟩
    refine ⟨_, rfl, g, _, dx, fs, _, rfl, hg, T.c_Growing, T.n_kept_heard, f1, _, rfl, lh, _, _, _, rfl, rfl, SqL.of hlh, atI_nat (vns_at hp), ?_⟩
    refine ⟨_, rfl, _, _, rfl, rfl, Int.natCast_nonneg _, _, _, rfl, rfl, rfl, ?_⟩
    show Q (.bl (decide (V.int (Builtin.bitAnd ((R : Int) / 2 ^ (v : Int).toNat) 1) = V.int 1))) H
    rw [bit1]
    exact k
/-! lacking -/
theorem scLacking : FnScope ["self", "at", "lot"] ["self"] (defScope sCGrowingLacking) := ⟨rfl, rfl, rfl, by decide +kernel, rfl, by decide +kernel, by decide +kernel⟩
/-- no lot below j lacks -/
def NoLack (ev nv : List Int) (j : Nat) : Prop := ∀ i e v, i < j → ev[i]? = some e → nv[i]? = some v → v ≤ e
def spLacking (K : PySem.W.Frag) : Sp := fun vs H Q _ => ∃ (g dx ll le ln : Addr) (fs : List (Str × V)) (as : List Addr) (ev nv : List Int), vs = [.ref g] ∧ H g = some (.ins (He.ga K "Growing") dx fs) ∧ fs.lookup ("kept_lots" : Str) = some (.ref ll) ∧ fs.lookup ("kept_entered" : Str) = some (.ref le) ∧ fs.lookup ("kept_needed" : Str) = some (.ref ln) ∧
  H ll = some (.lst (as.map V.ref)) ∧ H le = some (.lst (ev.map V.int)) ∧ H ln = some (.lst (nv.map V.int)) ∧ ev.length = as.length ∧ nv.length = as.length ∧
  (∀ H', Same H H' → NoLack ev nv as.length → Q .non H') ∧ ∀ H' j a e v, Same H H' → as[j]? = some a → ev[j]? = some e → nv[j]? = some v → e < v → NoLack ev nv j → Q (.ref a) H'
theorem okLacking (T : Txt K mg) : FnK P w K mg base CX0 1 (He.ma K (He.ga K "Growing") "lacking") ["self"] (spLacking K) := by
  refine FnK.of T.d_CGrowingLacking scLacking (fun _ _ _ _ _ _ us hl => match us, hl with | [_], _ => rfl) (fun vs H Q E h => ?_) (fun cdv A outer s H vs Q E hr h => ?_)
  · obtain ⟨g, dx, ll, le, ln, fs, as, ev, nv, rfl, _⟩ := h
    rfl
  · obtain ⟨g, dx, ll, le, ln, fs, as, ev, nv, rfl, hg, f1, f2, f3, hll, hle, hln, l1, l2, k1, k2⟩ := h
    refine ⟨_, pss_cons (ps_for PassesOwn.never rfl (pi_enum rfl T.f_enumerate (a1 (pe_fld (pv 0) rfl))) (pg_tup rfl (pgs_cons (pg_name (i := 1) scLacking.nd rfl (.inl rfl)) (pgs_cons (pg_name (i := 2) scLacking.nd rfl (.inl rfl)) pgs_nil)))
        (pss_one (ps_if (pt_cmpR op_lt (pe_ix ix_list (pe_fld (pv 0) rfl) (pv 1) (fun _ _ => rfl)) (pe_ix ix_list (pe_fld (pv 0) rfl) (pv 1) (fun _ _ => rfl)) (nomark _)) (pss_one (ps_ret (pv 2))) pss_nil)))
      (pss_one (ps_ret pe_non)), ?_⟩
    refine ⟨_, rfl, g, _, dx, fs, _, rfl, hg, T.c_Growing, T.n_kept_lots, f1, ?_⟩
    refine ⟨ll, _, rfl, SqL.of hll, for_enumL (K := K) (a := ll) (xs := as.map V.ref) (fun j σ H' => Same H H' ∧ NoLack ev nv j ∧ ∃ u v : Option V, σ = [some (.ref g), u, v])
      ⟨Same.refl _, fun i e v hi => absurd hi (Nat.not_lt_zero _), none, none, rfl⟩ (fun j σ H' h => SqL.of (h.1 _ _ hll)) ?_ ?_⟩
    · rintro j x T' σ H1 hj ⟨s1, nl, u, v, rfl⟩ hT
      rw [List.getElem?_map] at hj
      obtain ⟨a, ha, rfl⟩ := Option.map_eq_some_iff.mp hj
      have hjl := (List.getElem?_eq_some_iff.mp ha).1
      have he : ev[j]? = some ev[j] := List.getElem?_eq_getElem (by omega)
      have hn : nv[j]? = some nv[j] := List.getElem?_eq_getElem (by omega)
      have sT : Same H (upd H1 T' (.tup [.int (j : Nat), .ref a])) := s1.trans (same_new hT)
      refine ⟨T', _, rfl, SqT.of upd_same, rfl, ?_⟩
      refine ⟨_, _, rfl, _, _, rfl, rfl, ?_⟩
      refine ⟨_, rfl, g, _, dx, fs, _, rfl, sT _ _ hg, T.c_Growing, T.n_kept_entered, f2, _, rfl, le, _, _, _, rfl, rfl, SqL.of (sT _ _ hle), atI_nat (by rw [List.getElem?_map, he]; rfl), ?_⟩
      refine ⟨_, rfl, g, _, dx, fs, _, rfl, sT _ _ hg, T.c_Growing, T.n_kept_needed, f3, _, rfl, ln, _, _, _, rfl, rfl, SqL.of (sT _ _ hln), atI_nat (by rw [List.getElem?_map, hn]; rfl), ?_⟩
      refine ⟨_, _, rfl, rfl, ?_⟩
      by_cases c : ev[j] < nv[j]
      · refine ⟨true, blT c, ?_⟩
        refine iteT ?_
        exact ⟨_, rfl, k2 _ j a _ _ sT ha he hn c nl⟩
      · refine ⟨false, blF c, ?_⟩
        refine iteF ?_
        refine ⟨sT, fun i e v hi h1 h2 => ?_, _, _, rfl⟩
        rcases Nat.lt_succ_iff_lt_or_eq.mp hi with h | h
        · exact nl i e v h h1 h2
        · subst h
          rw [he] at h1; rw [hn] at h2
          cases h1; cases h2
          omega
    · rintro σ H1 ⟨s1, nl, u, v, rfl⟩
      rw [List.length_map] at nl
      exact k1 H1 s1 nl
end
end Spt

set_option Elab.async false
set_option linter.all false
set_option maxRecDepth 100000
set_option maxHeartbeats 4000000
/-! growing.py: the state; is_safe -/
namespace Spt
open PySem PySem.Spec PyProof.Rows L2
theorem Room.u1 {k : Nat} {A : Around} (r : Room k A) : A.units + 1 < cLine := by have := r.units; omega
/-- a list's item, to be changed -/
def rGetL (K : PySem.W.Frag) : V → V → Hp → VK → Prop := fun o i H Q => ∃ (p : Addr) (xs : List V) (j : Nat) (x : V), o = .ref p ∧ i = vn j ∧ SqL K H p xs ∧ xs[j]? = some x ∧ Q x H
theorem get_list {X : Cx} : PGet X (rGetL X.K) := by
  intro pins s σ H o i ov iv Q I ro ri h
  obtain ⟨p, xs, j, x, rfl, rfl, hq, hx, q⟩ := h
  cases ro
  obtain ⟨t, rfl⟩ := ri
  obtain ⟨its, r, pl, hz⟩ := I.list hq
  obtain ⟨u, hu, ru⟩ := r.get hx
  have hn := line63
  have hj : j < its.length := (List.getElem?_eq_some_iff.mp hu).1
  have hl := r.length
  exact wpAny_getItem_list pl.isList (Int.natCast_nonneg j) (by omega) (x := u) (by rw [Int.toNat_natCast]; simpa using hu) ⟨x, H, I, ru, q⟩
theorem enK_val : ∀ (b : Nat) (xs : List V) (i : Nat), valV (enK b xs) (numK (b + i)) = xs[i]?
  | _, [], i => by simp [enK, valV]
  | b, x :: xs, 0 => by
    show valV ((numK b, x) :: enK (b + 1) xs) (numK (b + 0)) = _
    exact valV_pos (p := (numK b, x)) (k := numK (b + 0)) rfl
  | b, x :: xs, i + 1 => by
    show valV ((numK b, x) :: enK (b + 1) xs) (numK (b + (i + 1))) = _
    rw [valV_neg (fun z => by have := numK_inj z; omega), ← Nat.add_assoc, Nat.add_right_comm, enK_val (b + 1) xs i]
    simp
theorem enK_val0 (xs : List V) (i : Nat) : valV (enK 0 xs) (numK i) = xs[i]? := by
  have := enK_val 0 xs i
  rwa [Nat.zero_add] at this
theorem enK_map : ∀ (b : Nat) (xs : List V) (i : Nat) (v : V), (enK b xs).map (fun kv => if kv.1 = numK (b + i) then (kv.1, v) else kv) = enK b (xs.set i v)
  | _, [], i, v => by simp [enK]
  | b, x :: xs, 0, v => by
    show (if numK b = numK (b + 0) then (numK b, v) else (numK b, x)) :: (enK (b + 1) xs).map _ = _
    rw [Nat.add_zero, if_pos rfl, List.set_cons_zero]
    show _ = (numK b, v) :: enK (b + 1) xs
    congr 1
    refine (List.map_congr_left fun p hp => ?_).trans (List.map_id _)
    obtain ⟨j, h1, h2⟩ := enK_lt (b + 1) xs p hp
    rw [if_neg]
    · rfl
    · intro z
      have := numK_inj (h2.symm.trans z)
      omega
  | b, x :: xs, i + 1, v => by
    show (if numK b = numK (b + (i + 1)) then (numK b, v) else (numK b, x)) :: (enK (b + 1) xs).map _ = _
    rw [if_neg (fun z => by have := numK_inj z; omega), List.set_cons_succ]
    show _ = (numK b, x) :: enK (b + 1) (xs.set i v)
    rw [← enK_map (b + 1) xs i v, show b + (i + 1) = b + 1 + i by omega]
theorem enK_put {xs : List V} {i : Nat} {v : V} (h : i < xs.length) : putK (enK 0 xs) (numK i) v = enK 0 (xs.set i v) := by
  unfold putK
  rw [if_pos]
  · have := enK_map 0 xs i v
    rwa [Nat.zero_add] at this
  · rw [valV_any, enK_val0, List.getElem?_eq_getElem h]
    rfl
theorem vns_set (l : List Nat) (i n : Nat) : (vns l).set i (vn n) = vns (l.set i n) := by
  unfold vns
  rw [List.map_set]
theorem ints_set (l : List Int) (i : Nat) (n : Int) : (l.map V.int).set i (.int n) = (l.set i n).map V.int := by
  rw [List.map_set]
/-- where the parts of a Growing lie -/
structure GA where
  lt : Addr
  du : Addr
  lh : Addr
  lp : Addr
  ll : Addr
  lm : Addr
  di : Addr
  le : Addr
  ln : Addr
  pas : List Addr
  ias : List Addr
  las : List Addr
structure GF (fs : List (Str × V)) (A : GA) (n : Nat) : Prop where
  many : fs.lookup ("kept_many" : Str) = some (vn n)
  ends : fs.lookup ("kept_ends" : Str) = some (.ref A.lt)
  uses : fs.lookup ("kept_uses" : Str) = some (.ref A.du)
  heard : fs.lookup ("kept_heard" : Str) = some (.ref A.lh)
  parts : fs.lookup ("kept_parts" : Str) = some (.ref A.lp)
  lots : fs.lookup ("kept_lots" : Str) = some (.ref A.ll)
  masks : fs.lookup ("kept_masks" : Str) = some (.ref A.lm)
  into : fs.lookup ("kept_into" : Str) = some (.ref A.di)
  entered : fs.lookup ("kept_entered" : Str) = some (.ref A.le)
  needed : fs.lookup ("kept_needed" : Str) = some (.ref A.ln)
  m1 : fs.lookup ("has_heard" : Str) = none
  m2 : fs.lookup ("is_safe" : Str) = none
  m3 : fs.lookup ("take" : Str) = none
  m4 : fs.lookup ("grow" : Str) = none
  m5 : fs.lookup ("lacking" : Str) = none
  m6 : fs.lookup ("grown" : Str) = none
/-- the lists, apart -/
structure GAp (A : GA) : Prop where
  hd : [A.le, A.ln, A.lh, A.lm, A.lp, A.ll].Nodup
  ps : ∀ a ∈ A.pas, a ∉ [A.le, A.ln, A.lh, A.lm, A.lp, A.ll]
  is : ∀ a ∈ A.ias, a ∉ [A.le, A.ln, A.lh, A.lm, A.lp, A.ll]
  px : ∀ a ∈ A.pas, a ∉ A.ias
  pn : A.pas.Nodup
  d : A.du ≠ A.di
structure GR (K : PySem.W.Frag) (H : Hp) (g : Addr) (A : GA) (n : Nat) (es : List (Nat × Nat)) (us hs : List Nat) (Ts : List (List Nat)) (ev nv : List Int) : Prop where
  ins : ∃ dx fs, H g = some (.ins (He.ga K "Growing") dx fs) ∧ GF fs A n
  lks : LinksO H A.lt es
  du : H A.du = some (.dK (enK 0 (vns us)))
  lh : H A.lh = some (.lst (vns hs))
  lp : H A.lp = some (.lst (A.pas.map V.ref))
  ps : Paired (fun (a : Addr) (T : List Nat) => H a = some (.lst (vns T))) A.pas Ts
  ll : H A.ll = some (.lst (A.las.map V.ref))
  las : LotsO H A.las (lots n)
  lm : H A.lm = some (.lst (vns (masks n)))
  di : H A.di = some (.dK (enK 0 (A.ias.map V.ref)))
  ias : Paired (fun (a : Addr) (e : Nat × Nat) => H a = some (.lst (vns (intoOf (masks n) e)))) A.ias es
  le : H A.le = some (.lst (ev.map V.int))
  ln : H A.ln = some (.lst (nv.map V.int))
  ap : GAp A
  n2 : 2 ≤ n
  n10 : n ≤ 10
  lks2 : Links n es
  l60 : es.length ≤ 60
  lu : us.length = es.length
  lT : Ts.length = hs.length
  l100 : hs.length ≤ 100
  lev : ev.length = (masks n).length
  lnv : nv.length = (masks n).length
theorem masks_len {n : Nat} (h2 : 2 ≤ n) (h : n ≤ 10) : (masks n).length ≤ 3000 := by
  unfold masks
  rw [List.length_map]
  exact lots_len h2 h
theorem GR.same {K : PySem.W.Frag} {H H' : Hp} {g : Addr} {A : GA} {n : Nat} {es us hs Ts ev nv} (s : Same H H') (G : GR K H g A n es us hs Ts ev nv) : GR K H' g A n es us hs Ts ev nv := by
  obtain ⟨dx, fs, h1, h2⟩ := G.ins
  exact { G with
    ins := ⟨dx, fs, s _ _ h1, h2⟩, lks := G.lks.same s, du := s _ _ G.du, lh := s _ _ G.lh, lp := s _ _ G.lp, ps := Paired.imp (fun _ _ q => s _ _ q) G.ps
    ll := s _ _ G.ll, las := G.las.same s, lm := s _ _ G.lm, di := s _ _ G.di, ias := Paired.imp (fun _ _ q => s _ _ q) G.ias, le := s _ _ G.le, ln := s _ _ G.ln }
def badAt (ms : List Nat) (ev nv : List Int) (R k : Nat) : Bool := !(ms.getD k 0 &&& R == 0) && decide (ev.getD k 0 ≤ nv.getD k 0)
def safeB (ms : List Nat) (ev nv : List Int) (u R : Nat) (e : Nat × Nat) : Bool := !(u == 0) && R.testBit e.1 && !R.testBit e.2 && (intoOf ms e).all fun k => !badAt ms ev nv R k
theorem dec_vn (a b : Nat) : decide (vn a = vn b) = (a == b) := by
  show decide (V.int (a : Int) = V.int (b : Int)) = _
  rw [dec_int, Bool.eq_iff_iff, beq_iff_eq, beq_iff_eq]
  omega
theorem all_take {α : Type} {l : List α} {f : α → Bool} {j : Nat} {x : α} (hx : l[j]? = some x) (h : (l.take j).all f = true) (h2 : f x = true) : (l.take (j + 1)).all f = true := by
  rw [take_snoc hx, List.all_append, h]
  simp [h2]
theorem all_not {α : Type} {l : List α} {f : α → Bool} {j : Nat} {x : α} (hx : l[j]? = some x) (h2 : f x = false) : l.all f = false := by
  rw [List.all_eq_false]
  exact ⟨x, List.mem_of_getElem? hx, by rw [h2]; exact Bool.false_ne_true⟩
section
variable {P : Program} {w : World} {K : PySem.W.Frag} {mg : Str → Option Value} {base : Heap}
/-! is_safe -/
theorem scIsSafe : FnScope ["self", "part", "link", "one", "other", "heard", "at"] ["self", "part", "link"] (defScope sCGrowingIsSafe) := ⟨rfl, rfl, rfl, by decide +kernel, rfl, by decide +kernel, by decide +kernel⟩
def spIsSafe (K : PySem.W.Frag) : Sp := fun vs H Q _ => ∃ (g : Addr) (A : GA) (n p i u R : Nat) (es : List (Nat × Nat)) (us hs : List Nat) (Ts : List (List Nat)) (ev nv : List Int) (e : Nat × Nat), vs = [.ref g, vn p, vn i] ∧ GR K H g A n es us hs Ts ev nv ∧ us[i]? = some u ∧ es[i]? = some e ∧ hs[p]? = some R ∧
  ∀ H', Same H H' → Q (.bl (safeB (masks n) ev nv u R e)) H'
theorem okIsSafe (T : Txt K mg) : FnK P w K mg base CX0 2 (He.ma K (He.ga K "Growing") "is_safe") ["self", "part", "link"] (spIsSafe K) := by
  refine FnK.of T.d_CGrowingIsSafe scIsSafe (fun _ _ _ _ _ _ us hl => match us, hl with | [_, _, _], _ => rfl) (fun vs H Q E h => ?_) (fun cdv A outer s H vs Q E hr h => ?_)
  · obtain ⟨g, A, n, p, i, u, R, es, us, hs, Ts, ev, nv, e, rfl, _⟩ := h
    rfl
  · obtain ⟨g, GA', n, p, i, u, R, es, us, hs, Ts, ev, nv, e, rfl, G, hu, he, hp, k⟩ := h
    obtain ⟨dx, fs, hg, F⟩ := G.ins
    obtain ⟨xs, a, hx, hxi, ha⟩ := G.lks.get he
    have hml := masks_len G.n2 G.n10
    refine ⟨_, pss_cons (ps_asg (pe_ix ix_tup (pe_fld (pv 0) rfl) (pv 2) (fun _ _ => rfl)) (pg_tup rfl (pgs_cons (pg_name (i := 3) scIsSafe.nd rfl (.inl rfl)) (pgs_cons (pg_name (i := 4) scIsSafe.nd rfl (.inl rfl)) pgs_nil))))
      (pss_cons (ps_if (PW.pt (pw_or (pt_cmpR op_eq (pe_dget (Room.u1 hr) (pe_fld (pv 0) rfl) (pv 2) (fun _ _ => rfl)) pe_int (nomark _)) (pw_or (pt_not (pt_val (clm (okHasHeard T) hr T.c_Growing T.m_has_heard (pv 0) (a2 (pv 1) (pv 3))))) (pw_or1 (pt_val (clm (okHasHeard T) hr T.c_Growing T.m_has_heard (pv 0) (a2 (pv 1) (pv 4)))))))) (pss_one (ps_ret pe_bl)) pss_nil)
      (pss_cons (ps_set (i := 5) scIsSafe.nd rfl (.inl rfl) (pe_ix ix_list (pe_fld (pv 0) rfl) (pv 1) (fun _ _ => rfl)))
      (pss_cons (ps_for PassesOwn.never rfl (pi_list (pe_dget (Room.u1 hr) (pe_fld (pv 0) rfl) (pv 2) (fun _ _ => rfl))) (pg_name (i := 6) scIsSafe.nd rfl (.inl rfl))
        (pss_one (ps_if (PW.pt (pw_and (pt_cmpR op_ne (pe_op op_and (pe_ix ix_list (pe_fld (pv 0) rfl) (pv 6) (fun _ _ => rfl)) (pv 5)) pe_int (nomark _)) (pw_and1 (pt_cmpR op_le (pe_ix ix_list (pe_fld (pv 0) rfl) (pv 6) (fun _ _ => rfl)) (pe_ix ix_list (pe_fld (pv 0) rfl) (pv 6) (fun _ _ => rfl)) (nomark _))))) (pss_one (ps_ret pe_bl)) pss_nil)))
      (pss_one (ps_ret pe_bl))))), ?_⟩
    refine ⟨_, rfl, g, _, dx, fs, _, rfl, hg, T.c_Growing, T.n_kept_ends, F.ends, _, rfl, _, _, _, _, rfl, rfl, SqT.of hx, atI_nat hxi, ?_⟩
    refine ⟨a, _, rfl, SqT.of ha, rfl, ?_⟩
    refine ⟨_, _, rfl, _, _, rfl, rfl, ?_⟩
    -- the three tests
    have gu : DGet H GA'.du (vn i) (some (vn u)) := by
      have q : DGet H GA'.du (kV (numK i)) (valV (enK 0 (vns us)) (numK i)) := DGet.k G.du
      rw [enK_val0, vns_at hu] at q
      exact q
    refine ⟨_, rfl, g, _, dx, fs, _, rfl, hg, T.c_Growing, T.n_kept_uses, F.uses, _, rfl, _, _, rfl, gu, rfl, ?_⟩
    refine ⟨_, rfl, ?_⟩
    show if decide (vn u = vn 0) = true then _ else _
    rw [dec_vn]
    cases c0 : (u == 0) with
    | true =>
      refine iteT (iteT ?_)
      have : safeB (masks n) ev nv u R e = false := by unfold safeB; rw [c0]; rfl
      rw [← this]
      exact k H (Same.refl _)
    | false =>
      refine iteF ?_
      refine ⟨_, rfl, g, dx, fs, rfl, hg, F.m1, _, rfl, _, rfl, g, dx, _, fs, p, e.1, R, hs, rfl, hg, F.heard, G.lh, hp, ?_⟩
      refine ⟨_, rfl, ?_⟩
      cases c1 : R.testBit e.1 with
      | false =>
        refine iteT (iteT ?_)
        have : safeB (masks n) ev nv u R e = false := by unfold safeB; rw [c0, c1]; rfl
        rw [← this]
        exact k H (Same.refl _)
      | true =>
        refine iteF ?_
        refine ⟨_, rfl, g, dx, fs, rfl, hg, F.m1, _, rfl, _, rfl, g, dx, _, fs, p, e.2, R, hs, rfl, hg, F.heard, G.lh, hp, ?_⟩
        refine ⟨_, rfl, ?_⟩
        cases c2 : R.testBit e.2 with
        | true =>
          refine iteT ?_
          have : safeB (masks n) ev nv u R e = false := by unfold safeB; rw [c0, c1, c2]; rfl
          rw [← this]
          exact k H (Same.refl _)
        | false =>
          refine iteF ?_
          refine ⟨_, rfl, g, _, dx, fs, _, rfl, hg, T.c_Growing, T.n_kept_heard, F.heard, _, rfl, _, _, _, _, rfl, rfl, SqL.of G.lh, atI_nat (vns_at hp), ?_⟩
          obtain ⟨ia, hia, hib⟩ := Paired.get' G.ias he
          have gi : DGet H GA'.di (vn i) (some (.ref ia)) := by
            have q : DGet H GA'.di (kV (numK i)) (valV (enK 0 (GA'.ias.map V.ref)) (numK i)) := DGet.k G.di
            rw [enK_val0, List.getElem?_map, hia] at q
            exact q
          refine ⟨_, rfl, g, _, dx, fs, _, rfl, hg, T.c_Growing, T.n_kept_into, F.into, _, rfl, _, _, rfl, gi, ?_⟩
          have sb : ∀ b, safeB (masks n) ev nv u R e = b ↔ ((intoOf (masks n) e).all fun k => !badAt (masks n) ev nv R k) = b := fun b => by
            unfold safeB; rw [c0, c1, c2]; simp
          refine ⟨ia, rfl, ⟨_, SqL.of hib⟩, for_list (K := K) (a := ia) (xs := vns (intoOf (masks n) e)) (fun j σ H' => H' = H ∧ (((intoOf (masks n) e).take j).all fun k => !badAt (masks n) ev nv R k) = true ∧ ∃ v : Option V, σ = [some (.ref g), some (vn p), some (vn i), some (vn e.1), some (vn e.2), some (vn R), v])
            ⟨rfl, rfl, none, rfl⟩ (fun j σ H' _ h => by rw [h.1]; exact SqL.of hib) ?_ ?_⟩
          · rintro j x σ H1 hj ⟨rfl, al, v, rfl⟩
            obtain ⟨m, hm, rfl⟩ := vns_get hj
            have hmem := List.mem_of_getElem? hm
            have hml2 : m < (masks n).length := List.mem_range.mp (List.mem_filter.mp hmem).1
            have em : (masks n)[m]? = some ((masks n).getD m 0) := by rw [List.getD_eq_getElem?_getD, List.getElem?_eq_getElem hml2]; rfl
            have ee : ev[m]? = some (ev.getD m 0) := by rw [List.getD_eq_getElem?_getD, List.getElem?_eq_getElem (by rw [G.lev]; exact hml2)]; rfl
            have en : nv[m]? = some (nv.getD m 0) := by rw [List.getD_eq_getElem?_getD, List.getElem?_eq_getElem (by rw [G.lnv]; exact hml2)]; rfl
            refine ⟨_, rfl, g, _, dx, fs, _, rfl, hg, T.c_Growing, T.n_kept_masks, F.masks, _, rfl, _, _, _, _, rfl, rfl, SqL.of G.lm, atI_nat (vns_at em), ?_⟩
            refine ⟨_, rfl, _, _, rfl, rfl, rfl, ?_⟩
            refine ⟨_, rfl, ?_⟩
            show if (!decide (V.int (Builtin.bitAnd (((masks n).getD m 0 : Nat) : Int) (R : Int)) = V.int 0)) = true then _ else _
            rw [and0]
            have good : badAt (masks n) ev nv R m = false → _ := fun c => (⟨rfl, all_take hm al (by rw [c]; rfl), some (vn m), rfl⟩ :
              (fun j σ H' => H' = H1 ∧ (((intoOf (masks n) e).take j).all fun k => !badAt (masks n) ev nv R k) = true ∧ ∃ v : Option V, σ = [some (.ref g), some (vn p), some (vn i), some (vn e.1), some (vn e.2), some (vn R), v]) (j + 1) [some (.ref g), some (vn p), some (vn i), some (vn e.1), some (vn e.2), some (vn R), some (vn m)] H1)
            cases d1 : ((masks n).getD m 0 &&& R == 0) with
            | true =>
              refine iteF (iteF ?_)
              exact good (by unfold badAt; rw [d1]; rfl)
            | false =>
              refine iteT ?_
              refine ⟨_, rfl, g, _, dx, fs, _, rfl, hg, T.c_Growing, T.n_kept_entered, F.entered, _, rfl, _, _, _, _, rfl, rfl, SqL.of G.le, atI_nat (by rw [List.getElem?_map, ee]; rfl), ?_⟩
              refine ⟨_, rfl, g, _, dx, fs, _, rfl, hg, T.c_Growing, T.n_kept_needed, F.needed, _, rfl, _, _, _, _, rfl, rfl, SqL.of G.ln, atI_nat (by rw [List.getElem?_map, en]; rfl), ?_⟩
              refine ⟨_, _, rfl, rfl, ?_⟩
              by_cases d2 : ev.getD m 0 ≤ nv.getD m 0
              · refine ⟨true, blT d2, ?_⟩
                refine iteT ?_
                have : safeB (masks n) ev nv u R e = false := (sb false).mpr (all_not hm (by unfold badAt; rw [d1, decide_eq_true d2]; rfl))
                rw [← this]
                exact k H1 (Same.refl _)
              · refine ⟨false, blF d2, ?_⟩
                refine iteF ?_
                exact good (by unfold badAt; rw [d1, decide_eq_false d2]; rfl)
          · rintro σ H1 ⟨rfl, al, v, rfl⟩
            rw [vns_len, List.take_length] at al
            rw [← (sb true).mpr al]
            exact k H1 (Same.refl _)
end
end Spt

set_option Elab.async false
set_option linter.all false
set_option maxRecDepth 100000
set_option maxHeartbeats 4000000
/-! growing.py: the state changed -/
namespace Spt
open PySem PySem.Spec PyProof.Rows L2
theorem Paired.impL {α β : Type} {F G : α → β → Prop} : ∀ {l : List α} {m : List β}, (∀ a b, a ∈ l → F a b → G a b) → Paired F l m → Paired G l m
  | _, _, _, .nil => .nil
  | _, _, f, .cons h t => .cons (f _ _ List.mem_cons_self h) (Paired.impL (fun a b hm q => f a b (List.mem_cons_of_mem _ hm) q) t)
theorem Paired.setAt {α β : Type} {F G : α → β → Prop} : ∀ {l : List α} {m : List β} {p : Nat} {a : α} {y : β}, l.Nodup → l[p]? = some a → (∀ x z, x ≠ a → F x z → G x z) → G a y → Paired F l m → Paired G l (m.set p y)
  | _, _, p, a, y, _, hp, _, _, .nil => by simp at hp
  | x :: l, z :: m, 0, a, y, hn, hp, f, hg, .cons h t => by
    simp only [List.getElem?_cons_zero, Option.some.injEq] at hp
    subst hp
    rw [List.set_cons_zero]
    exact .cons hg (Paired.impL (fun b c hb q => f b c (fun w => (List.nodup_cons.mp hn).1 (w ▸ hb)) q) t)
  | x :: l, z :: m, p + 1, a, y, hn, hp, f, hg, .cons h t => by
    rw [List.set_cons_succ]
    have hp : l[p]? = some a := by simpa using hp
    exact .cons (f _ _ (fun w => (List.nodup_cons.mp hn).1 (w ▸ List.mem_of_getElem? hp)) h) (Paired.setAt (List.nodup_cons.mp hn).2 hp f hg t)
theorem not6 {a b1 b2 b3 b4 b5 b6 : Addr} (h : a ∉ [b1, b2, b3, b4, b5, b6]) : a ≠ b1 ∧ a ≠ b2 ∧ a ≠ b3 ∧ a ≠ b4 ∧ a ≠ b5 ∧ a ≠ b6 := by
  simp only [List.mem_cons, List.not_mem_nil, or_false, not_or] at h
  exact h
theorem GAp.six {A : GA} (h : GAp A) : (A.le ≠ A.ln ∧ A.le ≠ A.lh ∧ A.le ≠ A.lm ∧ A.le ≠ A.lp ∧ A.le ≠ A.ll) ∧ (A.ln ≠ A.lh ∧ A.ln ≠ A.lm ∧ A.ln ≠ A.lp ∧ A.ln ≠ A.ll) ∧ (A.lh ≠ A.lm ∧ A.lh ≠ A.lp ∧ A.lh ≠ A.ll) ∧ (A.lm ≠ A.lp ∧ A.lm ≠ A.ll) ∧ A.lp ≠ A.ll := by
  have q := h.hd
  simp only [List.nodup_cons, List.mem_cons, List.not_mem_nil, or_false, not_or, List.nodup_nil, and_true, not_false_eq_true] at q
  exact q
theorem GR.setE {K : PySem.W.Frag} {H H' : Hp} {g : Addr} {A : GA} {n : Nat} {es us hs Ts ev nv} {ev' : List Int} (G : GR K H g A n es us hs Ts ev nv) (e : EBut A.le H H') (h : H' A.le = some (.lst (ev'.map V.int))) (hl : ev'.length = ev.length) : GR K H' g A n es us hs Ts ev' nv := by
  obtain ⟨dx, fs, h1, h2⟩ := G.ins
  obtain ⟨⟨a1, a2, a3, a4, a5⟩, ⟨b1, b2, b3, b4⟩, ⟨c1, c2, c3⟩, ⟨d1, d2⟩, e1⟩ := G.ap.six
  exact { G with
    ins := ⟨dx, fs, e _ _ (ne_of h1 G.le (fun z => nomatch z)) h1, h2⟩
    lks := G.lks.mono fun b xs z => e _ _ (ne_of z G.le (fun z => nomatch z)) z
    las := Paired.imp (F := fun (l : List Nat) (b : Addr) => H b = some (.tup (vns l))) (fun l b z => e _ _ (ne_of z G.le (fun z => nomatch z)) z) G.las
    du := e _ _ (ne_of G.du G.le (fun z => nomatch z)) G.du
    di := e _ _ (ne_of G.di G.le (fun z => nomatch z)) G.di
    ln := e _ _ (Ne.symm a1) G.ln
    lh := e _ _ (Ne.symm a2) G.lh
    lm := e _ _ (Ne.symm a3) G.lm
    lp := e _ _ (Ne.symm a4) G.lp
    ll := e _ _ (Ne.symm a5) G.ll
    ps := Paired.impL (fun b T hb z => e _ _ (fun w => G.ap.ps b hb (by rw [w]; simp)) z) G.ps
    ias := Paired.impL (fun b T hb z => e _ _ (fun w => G.ap.is b hb (by rw [w]; simp)) z) G.ias
    le := h
    lev := hl.trans G.lev }
theorem GR.setN {K : PySem.W.Frag} {H H' : Hp} {g : Addr} {A : GA} {n : Nat} {es us hs Ts ev nv} {nv' : List Int} (G : GR K H g A n es us hs Ts ev nv) (e : EBut A.ln H H') (h : H' A.ln = some (.lst (nv'.map V.int))) (hl : nv'.length = nv.length) : GR K H' g A n es us hs Ts ev nv' := by
  obtain ⟨dx, fs, h1, h2⟩ := G.ins
  obtain ⟨⟨a1, a2, a3, a4, a5⟩, ⟨b1, b2, b3, b4⟩, ⟨c1, c2, c3⟩, ⟨d1, d2⟩, e1⟩ := G.ap.six
  exact { G with
    ins := ⟨dx, fs, e _ _ (ne_of h1 G.ln (fun z => nomatch z)) h1, h2⟩
    lks := G.lks.mono fun b xs z => e _ _ (ne_of z G.ln (fun z => nomatch z)) z
    las := Paired.imp (F := fun (l : List Nat) (b : Addr) => H b = some (.tup (vns l))) (fun l b z => e _ _ (ne_of z G.ln (fun z => nomatch z)) z) G.las
    du := e _ _ (ne_of G.du G.ln (fun z => nomatch z)) G.du
    di := e _ _ (ne_of G.di G.ln (fun z => nomatch z)) G.di
    le := e _ _ a1 G.le
    lh := e _ _ (Ne.symm b1) G.lh
    lm := e _ _ (Ne.symm b2) G.lm
    lp := e _ _ (Ne.symm b3) G.lp
    ll := e _ _ (Ne.symm b4) G.ll
    ps := Paired.impL (fun b T hb z => e _ _ (fun w => G.ap.ps b hb (by rw [w]; simp)) z) G.ps
    ias := Paired.impL (fun b T hb z => e _ _ (fun w => G.ap.is b hb (by rw [w]; simp)) z) G.ias
    ln := h
    lnv := hl.trans G.lnv }
theorem GR.setH {K : PySem.W.Frag} {H H' : Hp} {g : Addr} {A : GA} {n : Nat} {es us hs Ts ev nv} {hs' : List Nat} (G : GR K H g A n es us hs Ts ev nv) (e : EBut A.lh H H') (h : H' A.lh = some (.lst (vns hs'))) (hl : hs'.length = hs.length) : GR K H' g A n es us hs' Ts ev nv := by
  obtain ⟨dx, fs, h1, h2⟩ := G.ins
  obtain ⟨⟨a1, a2, a3, a4, a5⟩, ⟨b1, b2, b3, b4⟩, ⟨c1, c2, c3⟩, ⟨d1, d2⟩, e1⟩ := G.ap.six
  exact { G with
    ins := ⟨dx, fs, e _ _ (ne_of h1 G.lh (fun z => nomatch z)) h1, h2⟩
    lks := G.lks.mono fun b xs z => e _ _ (ne_of z G.lh (fun z => nomatch z)) z
    las := Paired.imp (F := fun (l : List Nat) (b : Addr) => H b = some (.tup (vns l))) (fun l b z => e _ _ (ne_of z G.lh (fun z => nomatch z)) z) G.las
    du := e _ _ (ne_of G.du G.lh (fun z => nomatch z)) G.du
    di := e _ _ (ne_of G.di G.lh (fun z => nomatch z)) G.di
    le := e _ _ a2 G.le
    ln := e _ _ b1 G.ln
    lm := e _ _ (Ne.symm c1) G.lm
    lp := e _ _ (Ne.symm c2) G.lp
    ll := e _ _ (Ne.symm c3) G.ll
    ps := Paired.impL (fun b T hb z => e _ _ (fun w => G.ap.ps b hb (by rw [w]; simp)) z) G.ps
    ias := Paired.impL (fun b T hb z => e _ _ (fun w => G.ap.is b hb (by rw [w]; simp)) z) G.ias
    lh := h
    lT := G.lT.trans hl.symm
    l100 := by rw [hl]; exact G.l100 }
theorem GR.setU {K : PySem.W.Frag} {H H' : Hp} {g : Addr} {A : GA} {n : Nat} {es us hs Ts ev nv} {us' : List Nat} (G : GR K H g A n es us hs Ts ev nv) (e : EBut A.du H H') (h : H' A.du = some (.dK (enK 0 (vns us')))) (hl : us'.length = us.length) : GR K H' g A n es us' hs Ts ev nv := by
  obtain ⟨dx, fs, h1, h2⟩ := G.ins
  obtain ⟨⟨a1, a2, a3, a4, a5⟩, ⟨b1, b2, b3, b4⟩, ⟨c1, c2, c3⟩, ⟨d1, d2⟩, e1⟩ := G.ap.six
  exact { G with
    ins := ⟨dx, fs, e _ _ (ne_of h1 G.du (fun z => nomatch z)) h1, h2⟩
    lks := G.lks.mono fun b xs z => e _ _ (ne_of z G.du (fun z => nomatch z)) z
    las := Paired.imp (F := fun (l : List Nat) (b : Addr) => H b = some (.tup (vns l))) (fun l b z => e _ _ (ne_of z G.du (fun z => nomatch z)) z) G.las
    di := e _ _ (Ne.symm G.ap.d) G.di
    le := e _ _ (ne_of G.le G.du (fun z => nomatch z)) G.le
    ln := e _ _ (ne_of G.ln G.du (fun z => nomatch z)) G.ln
    lh := e _ _ (ne_of G.lh G.du (fun z => nomatch z)) G.lh
    lm := e _ _ (ne_of G.lm G.du (fun z => nomatch z)) G.lm
    lp := e _ _ (ne_of G.lp G.du (fun z => nomatch z)) G.lp
    ll := e _ _ (ne_of G.ll G.du (fun z => nomatch z)) G.ll
    ps := Paired.imp (F := fun (b : Addr) (T : List Nat) => H b = some (.lst (vns T))) (fun b T z => e _ _ (ne_of z G.du (fun z => nomatch z)) z) G.ps
    ias := Paired.imp (F := fun (b : Addr) (T : Nat × Nat) => H b = some (.lst (vns (intoOf (masks n) T)))) (fun b T z => e _ _ (ne_of z G.du (fun z => nomatch z)) z) G.ias
    du := h
    lu := hl.trans G.lu }
theorem GR.setP {K : PySem.W.Frag} {H H' : Hp} {g : Addr} {A : GA} {n : Nat} {es us hs Ts ev nv} {p : Nat} {a : Addr} {T' : List Nat} (G : GR K H g A n es us hs Ts ev nv) (e : EBut a H H') (hp : A.pas[p]? = some a) (h : H' a = some (.lst (vns T'))) : GR K H' g A n es us hs (Ts.set p T') ev nv := by
  obtain ⟨dx, fs, h1, h2⟩ := G.ins
  obtain ⟨⟨a1, a2, a3, a4, a5⟩, ⟨b1, b2, b3, b4⟩, ⟨c1, c2, c3⟩, ⟨d1, d2⟩, e1⟩ := G.ap.six
  have q : H a = some (.lst (vns (Ts.getD p []))) := by
    obtain ⟨T, hT, hT2⟩ := Paired.get G.ps hp
    rw [getD_of hT]; exact hT2
  have hm := List.mem_of_getElem? hp
  obtain ⟨p1, p2, p3, p4, p5, p6⟩ := not6 (G.ap.ps a hm)
  exact { G with
    ins := ⟨dx, fs, e _ _ (ne_of h1 q (fun z => nomatch z)) h1, h2⟩
    lks := G.lks.mono fun b xs z => e _ _ (ne_of z q (fun z => nomatch z)) z
    las := Paired.imp (F := fun (l : List Nat) (b : Addr) => H b = some (.tup (vns l))) (fun l b z => e _ _ (ne_of z q (fun z => nomatch z)) z) G.las
    du := e _ _ (ne_of G.du q (fun z => nomatch z)) G.du
    di := e _ _ (ne_of G.di q (fun z => nomatch z)) G.di
    le := e _ _ (Ne.symm p1) G.le
    ln := e _ _ (Ne.symm p2) G.ln
    lh := e _ _ (Ne.symm p3) G.lh
    lm := e _ _ (Ne.symm p4) G.lm
    lp := e _ _ (Ne.symm p5) G.lp
    ll := e _ _ (Ne.symm p6) G.ll
    ps := Paired.setAt G.ap.pn hp (fun b T ne z => e _ _ ne z) h G.ps
    ias := Paired.impL (fun b T hb z => e _ _ (fun w => G.ap.px a hm (w ▸ hb)) z) G.ias
    lT := by rw [List.length_set]; exact G.lT }
end Spt

set_option Elab.async false
set_option linter.all false
set_option maxRecDepth 100000
set_option maxHeartbeats 4000000
/-! growing.py: take -/
namespace Spt
open PySem PySem.Spec PyProof.Rows L2
theorem ixNn {n j : Nat} (hj : j < n) : ixN n (j : Int) = some j := by
  unfold ixN
  rw [if_pos (by omega), if_pos (by omega)]
  simp
/-- what changes -/
def GA.mu (A : GA) : List Addr := A.du :: A.lh :: A.le :: A.ln :: A.pas
def FrG (A : GA) (H H' : Hp) : Prop := ∀ b o, b ∉ A.mu → H b = some o → H' b = some o
theorem FrG.refl (A : GA) (H : Hp) : FrG A H H := fun _ _ _ h => h
theorem FrG.trans {A : GA} {H H1 H2 : Hp} (a : FrG A H H1) (b : FrG A H1 H2) : FrG A H H2 := fun x o n h => b x o n (a x o n h)
theorem FrG.same {A : GA} {H H1 : Hp} (s : Same H H1) : FrG A H H1 := fun x o _ h => s x o h
theorem FrG.but {A : GA} {H H1 : Hp} {D : Addr} (hD : D ∈ A.mu) (e : EBut D H H1) : FrG A H H1 := fun x o n h => e x o (fun z => n (z ▸ hD)) h
/-- the state, entered and needed as they are -/
def GS (K : PySem.W.Frag) (H : Hp) (g : Addr) (A : GA) (n : Nat) (es : List (Nat × Nat)) (us hs : List Nat) (Ts : List (List Nat)) : Prop := GR K H g A n es us hs Ts ((masks n).map (ent es us)) ((masks n).map (need hs))
theorem ebut_upd {H : Hp} {D : Addr} {o : HO} : EBut D H (upd H D o) := fun b u n e => by rw [upd_ne n]; exact e
section
variable {P : Program} {w : World} {K : PySem.W.Frag} {mg : Str → Option Value} {base : Heap}
theorem scTake : FnScope ["self", "part", "link", "at", "heard", "place", "mask"] ["self", "part", "link"] (defScope sCGrowingTake) := ⟨rfl, rfl, rfl, by decide +kernel, rfl, by decide +kernel, by decide +kernel⟩
def spTake (K : PySem.W.Frag) : Sp := fun vs H Q _ => ∃ (g : Addr) (A : GA) (n p i u R : Nat) (es : List (Nat × Nat)) (us hs : List Nat) (Ts : List (List Nat)) (e : Nat × Nat) (T : List Nat), vs = [.ref g, vn p, vn i] ∧ GS K H g A n es us hs Ts ∧ us[i]? = some u ∧ 0 < u ∧ es[i]? = some e ∧ hs[p]? = some R ∧ R.testBit e.2 = false ∧ Ts[p]? = some T ∧ T.length ≤ 1000 ∧
  ∀ H', FrG A H H' → GS K H' g A n es (us.set i (u - 1)) (hs.set p (R + 2 ^ e.2)) (Ts.set p (T ++ [i])) → Q .non H'
theorem okTake (T : Txt K mg) : FnK P w K mg base CX0 1 (He.ma K (He.ga K "Growing") "take") ["self", "part", "link"] (spTake K) := by
  refine FnK.of T.d_CGrowingTake scTake (fun _ _ _ _ _ _ us hl => match us, hl with | [_, _, _], _ => rfl) (fun vs H Q E h => ?_) (fun cdv A outer s H vs Q E hr h => ?_)
  · obtain ⟨g, A, n, p, i, u, R, es, us, hs, Ts, e, T, rfl, _⟩ := h
    rfl
  · obtain ⟨g, G', n, p, i, u, R, es, us, hs, Ts, e, Tp, rfl, G, hu, h0, he, hp, hb, hT, hTl, k⟩ := h
    obtain ⟨dx, fs, hg0, F⟩ := G.ins
    have hml := masks_len G.n2 G.n10
    have hes := G.lks2 e (List.mem_of_getElem? he)
    have n10 := G.n10
    refine ⟨_, pss_cons (ps_daug (Room.u1 hr) (pe_fld (pv 0) rfl) (pv 2) pe_int in_sub (fun _ _ _ => rfl))
      (pss_cons (ps_expr (pe_bm PySem.F.plainAttrs_list PySem.F.slot_list_append PySem.F.type_list_append mt_append (pe_ix ix_list (pe_fld (pv 0) rfl) (pv 1) (fun _ _ => rfl)) (a1 (pv 2))))
      (pss_cons (ps_for PassesOwn.never rfl (pi_list (pe_dget (Room.u1 hr) (pe_fld (pv 0) rfl) (pv 2) (fun _ _ => rfl))) (pg_name (i := 3) scTake.nd rfl (.inl rfl)) (pss_one (ps_augS (pe_fld (pv 0) rfl) (pv 3) get_list pe_int ip_sub set_list)))
      (pss_cons (ps_set (i := 4) scTake.nd rfl (.inl rfl) (pe_ix ix_list (pe_fld (pv 0) rfl) (pv 1) (fun _ _ => rfl)))
      (pss_cons (ps_set (i := 5) scTake.nd rfl (.inl rfl) (pe_ix ix_tup (pe_ix ix_tup (pe_fld (pv 0) rfl) (pv 2) (fun _ _ => rfl)) pe_int (fun _ _ => rfl)))
      (pss_cons (ps_for PassesOwn.never rfl (pi_enum rfl T.f_enumerate (a1 (pe_fld (pv 0) rfl))) (pg_tup rfl (pgs_cons (pg_name (i := 3) scTake.nd rfl (.inl rfl)) (pgs_cons (pg_name (i := 6) scTake.nd rfl (.inl rfl)) pgs_nil)))
        (pss_one (ps_if (PW.pt (pw_and (pt_cmpR op_eq (pe_op op_and (pe_op op_shr (pv 6) (pv 5)) pe_int) pe_int (nomark _)) (pw_and1 (pt_cmpR op_eq (pe_op op_and (pv 6) (pv 4)) pe_int (nomark _))))) (pss_one (ps_augS (pe_fld (pv 0) rfl) (pv 3) get_list pe_int ip_sub set_list)) pss_nil)))
      (pss_one (ps_asg (pe_op op_add (pv 4) (pe_op op_shl pe_int (pv 5))) (pg_sub (pe_fld (pv 0) rfl) (pv 1) set_list)))))))), ?_⟩
    -- uses
    have gu : DGet H G'.du (vn i) (some (vn u)) := by
      have q : DGet H G'.du (kV (numK i)) (valV (enK 0 (vns us)) (numK i)) := DGet.k G.du
      rw [enK_val0, vns_at hu] at q
      exact q
    have hil : i < us.length := (List.getElem?_eq_some_iff.mp hu).1
    refine ⟨_, rfl, g, _, dx, fs, _, rfl, hg0, T.c_Growing, T.n_kept_uses, F.uses, _, rfl, _, _, rfl, gu, _, _, rfl, rfl, ?_⟩
    have hl1 : (enK 0 (vns us)).length < sizeLine := by
      rw [enK_len, vns_len, sizeLine_eq]
      have := G.lu; have := G.l60
      omega
    have pu : DPut H G'.du (vn i) (.int ((u : Int) - 1)) (upd H G'.du (.dK (putK (enK 0 (vns us)) (numK i) (.int ((u : Int) - 1))))) := DPut.k (k := numK i) G.du hl1
    refine ⟨_, pu, ?_⟩
    have hv : V.int ((u : Int) - 1) = vn (u - 1) := by
      unfold vn
      congr 1
      omega
    rw [hv, enK_put (by rw [vns_len]; exact hil), vns_set]
    have G1 := G.setU (us' := us.set i (u - 1)) ebut_upd upd_same (List.length_set ..)
    have f1 : FrG G' H (upd H G'.du (.dK (enK 0 (vns (us.set i (u - 1)))))) := FrG.but (by unfold GA.mu; simp) ebut_upd
    clear gu pu hv
    revert G1 f1
    generalize upd H G'.du (.dK (enK 0 (vns (us.set i (u - 1))))) = H1
    intro G1 f1
    obtain ⟨_, _, hg1, _⟩ := G1.ins
    -- the part's list
    have hdx : H1 g = some (.ins (He.ga K "Growing") dx fs) := f1 g _ (fun z => by
      unfold GA.mu at z
      simp only [List.mem_cons] at z
      rcases z with z | z | z | z | z
      · exact ne_of hg0 G.du (fun z => nomatch z) z
      · exact ne_of hg0 G.lh (fun z => nomatch z) z
      · exact ne_of hg0 G.le (fun z => nomatch z) z
      · exact ne_of hg0 G.ln (fun z => nomatch z) z
      · obtain ⟨q, hq⟩ := List.getElem?_of_mem z
        obtain ⟨T1, _, hq2⟩ := Paired.get G.ps hq
        exact ne_of hg0 hq2 (fun z => nomatch z) rfl) hg0
    obtain ⟨pa, hpa, hpa2⟩ := Paired.get' G1.ps hT
    refine ⟨_, rfl, g, _, dx, fs, _, rfl, hdx, T.c_Growing, T.n_kept_parts, F.parts, _, rfl, _, _, _, _, rfl, rfl, SqL.of G1.lp, atI_nat (by rw [List.getElem?_map, hpa]; rfl), ?_⟩
    refine ⟨.inl ⟨rfl, _, SqL.of hpa2⟩, _, rfl, pa, _, _, rfl, rfl, hpa2, by rw [vns_len, sizeLine_eq]; omega, ?_⟩
    have eT : vns Tp ++ [vn i] = vns (Tp ++ [i]) := by unfold vns; rw [List.map_append]; rfl
    rw [eT]
    have G2 := G1.setP (p := p) (a := pa) (T' := Tp ++ [i]) ebut_upd hpa upd_same
    have f2 : FrG G' H (upd H1 pa (.lst (vns (Tp ++ [i])))) := f1.trans (FrG.but (by unfold GA.mu; simp only [List.mem_cons]; exact .inr (.inr (.inr (.inr (List.mem_of_getElem? hpa))))) ebut_upd)
    have hg2 : upd H1 pa (.lst (vns (Tp ++ [i]))) g = some (.ins (He.ga K "Growing") dx fs) := by rw [upd_ne (ne_of hdx hpa2 (fun z => nomatch z))]; exact hdx
    clear hpa2
    revert G2 f2 hg2
    generalize upd H1 pa (.lst (vns (Tp ++ [i]))) = H2
    intro G2 f2 hg2
    -- entered
    obtain ⟨ia, hia, hib⟩ := Paired.get' G2.ias he
    have gi : DGet H2 G'.di (vn i) (some (.ref ia)) := by
      have q : DGet H2 G'.di (kV (numK i)) (valV (enK 0 (G'.ias.map V.ref)) (numK i)) := DGet.k G2.di
      rw [enK_val0, List.getElem?_map, hia] at q
      exact q
    refine ⟨_, rfl, g, _, dx, fs, _, rfl, hg2, T.c_Growing, T.n_kept_into, F.into, _, rfl, _, _, rfl, gi, ?_⟩
    have iss := G2.ap.is ia (List.mem_of_getElem? hia)
    obtain ⟨i1, i2, i3, i4, i5, i6⟩ := not6 iss
    refine ⟨ia, rfl, ⟨_, SqL.of hib⟩, for_list (K := K) (a := ia) (xs := vns (intoOf (masks n) e)) (fun j σ H' => FrG G' H H' ∧ H' g = some (.ins (He.ga K "Growing") dx fs) ∧ H' ia = some (.lst (vns (intoOf (masks n) e))) ∧
        GR K H' g G' n es (us.set i (u - 1)) hs (Ts.set p (Tp ++ [i])) (decIf (fun k => decide (k ∈ (intoOf (masks n) e).take j)) ((masks n).map (ent es us))) ((masks n).map (need hs)) ∧ ∃ v : Option V, σ = [some (.ref g), some (vn p), some (vn i), v, none, none, none])
      ⟨f2, hg2, hib, ?_, none, rfl⟩ (fun j σ H' _ h => SqL.of h.2.2.1) ?_ ?_⟩
    · rw [decIf_none]
      · exact G2
      · intro k _
        simp
    · rintro j x σ H3 hj ⟨f3, hg3, hi3, G3, v, rfl⟩
      obtain ⟨m, hm, rfl⟩ := vns_get hj
      have hmem := List.mem_of_getElem? hm
      have hml2 : m < (masks n).length := List.mem_range.mp (List.mem_filter.mp hmem).1
      have hnd : (intoOf (masks n) e).Nodup := List.nodup_range.filter _
      have nin : decide (m ∈ (intoOf (masks n) e).take j) = false := by
        rw [decide_eq_false_iff_not]
        intro z
        obtain ⟨j2, hj2⟩ := List.getElem?_of_mem z
        rw [List.getElem?_take] at hj2
        split at hj2
        · rename_i hlt
          obtain ⟨q1, q2⟩ := List.getElem?_eq_some_iff.mp hj2
          have := (List.getElem?_inj q1 hnd).mp (hj2.trans hm.symm)
          omega
        · cases hj2
      have ee : ((masks n).map (ent es us))[m]? = some (((masks n).map (ent es us)).getD m 0) := by
        rw [List.getD_eq_getElem?_getD, List.getElem?_eq_getElem (by rw [List.length_map]; exact hml2)]
        rfl
      have eg := decIf_at (c := fun k => decide (k ∈ (intoOf (masks n) e).take j)) ee nin
      have le3 := G3.le
      refine ⟨_, rfl, g, _, dx, fs, _, rfl, hg3, T.c_Growing, T.n_kept_entered, F.entered, _, rfl, G'.le, _, m, _, rfl, rfl, SqL.of le3, by rw [List.getElem?_map, eg]; rfl, _, _, rfl, rfl, G'.le, _, _, m, rfl, rfl, le3, ?_, ?_⟩
      · rw [List.length_map, decIf_len, List.length_map]
        exact ixNn hml2
      · rw [ints_set]
        refine ⟨f3.trans (FrG.but (by unfold GA.mu; simp) ebut_upd), ?_, ?_, ?_, _, rfl⟩
        · rw [upd_ne (ne_of hg3 le3 (fun z => nomatch z))]; exact hg3
        · rw [upd_ne i1]; exact hi3
        · refine G3.setE ebut_upd ?_ (by rw [decIf_len, decIf_len])
          rw [upd_same]
          rw [decIf_set (c := fun k => decide (k ∈ (intoOf (masks n) e).take j)) (c' := fun k => decide (k ∈ (intoOf (masks n) e).take (j + 1))) ee nin]
          · rw [take_snoc hm]; simp
          · intro k hk
            rw [take_snoc hm]
            simp [hk]
    · rintro σ H3 ⟨f3, hg3, hi3, G3, v, rfl⟩
      rw [vns_len, List.take_length, decIf_ent (i := i) (u := u) (e := e) h0 he hu (fun k m hk => by
        unfold intoOf
        rw [Bool.eq_iff_iff, decide_eq_true_eq, List.mem_filter, List.mem_range, getD_of hk]
        exact ⟨fun z => z.2, fun z => ⟨(List.getElem?_eq_some_iff.mp hk).1, z⟩⟩)] at G3
      clear hi3 hib gi
      refine ⟨_, rfl, g, _, dx, fs, _, rfl, hg3, T.c_Growing, T.n_kept_heard, F.heard, _, rfl, _, _, _, _, rfl, rfl, SqL.of G3.lh, atI_nat (vns_at hp), ?_⟩
      obtain ⟨xs, a, hx, hxi, ha⟩ := G3.lks.get he
      refine ⟨_, rfl, g, _, dx, fs, _, rfl, hg3, T.c_Growing, T.n_kept_ends, F.ends, _, rfl, _, _, _, _, rfl, rfl, SqT.of hx, atI_nat hxi, _, _, 1, _, rfl, rfl, SqT.of ha, rfl, ?_⟩
      -- needed
      refine ⟨_, rfl, g, _, dx, fs, _, rfl, hg3, T.c_Growing, T.n_kept_masks, F.masks, ?_⟩
      refine ⟨G'.lm, _, rfl, SqL.of G3.lm, for_enumL (K := K) (a := G'.lm) (xs := vns (masks n)) (fun j σ H' => FrG G' H H' ∧ H' g = some (.ins (He.ga K "Growing") dx fs) ∧
          GR K H' g G' n es (us.set i (u - 1)) hs (Ts.set p (Tp ++ [i])) ((masks n).map (ent es (us.set i (u - 1)))) (decIf (fun k => decide (k < j) && (((masks n).getD k 0).testBit e.2 && ((masks n).getD k 0 &&& R == 0))) ((masks n).map (need hs))) ∧ ∃ v v2 : Option V, σ = [some (.ref g), some (vn p), some (vn i), v, some (vn R), some (vn e.2), v2])
        ⟨f3, hg3, ?_, v, none, rfl⟩ (fun j σ H' h => SqL.of h.2.2.1.lm) ?_ ?_⟩
      · rw [decIf_none]
        · exact G3
        · intro k _
          simp
      · rintro j x T' σ H4 hj ⟨f4, hg4, G4, v3, v4, rfl⟩ hT4
        obtain ⟨m, hm, rfl⟩ := vns_get hj
        have sT : Same H4 (upd H4 T' (.tup [.int (j : Nat), vn m])) := same_new hT4
        have G5 := G4.same sT
        have hg5 := sT _ _ hg4
        have f5 := f4.trans (FrG.same (A := G') sT)
        have hml2 := (List.getElem?_eq_some_iff.mp hm).1
        refine ⟨T', _, rfl, SqT.of upd_same, rfl, ?_⟩
        refine ⟨_, _, rfl, _, _, rfl, rfl, ?_⟩
        clear hT4 hg4 G4 f4
        revert G5 hg5 f5
        generalize upd H4 T' (.tup [.int (j : Nat), vn m]) = H5
        intro G5 hg5 f5
        have fin0 : (m.testBit e.2 && (m &&& R == 0)) = false → (fun j σ H' => FrG G' H H' ∧ H' g = some (.ins (He.ga K "Growing") dx fs) ∧
          GR K H' g G' n es (us.set i (u - 1)) hs (Ts.set p (Tp ++ [i])) ((masks n).map (ent es (us.set i (u - 1)))) (decIf (fun k => decide (k < j) && (((masks n).getD k 0).testBit e.2 && ((masks n).getD k 0 &&& R == 0))) ((masks n).map (need hs))) ∧ ∃ v v2 : Option V, σ = [some (.ref g), some (vn p), some (vn i), v, some (vn R), some (vn e.2), v2])
            (j + 1) [some (.ref g), some (vn p), some (vn i), some (.int (j : Nat)), some (vn R), some (vn e.2), some (vn m)] H5 := fun c => by
          refine ⟨f5, hg5, ?_, _, _, rfl⟩
          rw [decIf_congr (c' := fun k => decide (k < j) && (((masks n).getD k 0).testBit e.2 && ((masks n).getD k 0 &&& R == 0)))]
          · exact G5
          · intro k _
            by_cases ek : k = j
            · subst ek
              rw [getD_of hm, c]
              simp
            · have : decide (k < j + 1) = decide (k < j) := by
                rw [Bool.eq_iff_iff, decide_eq_true_eq, decide_eq_true_eq]
                omega
              rw [this]
        refine ⟨_, rfl, _, rfl, _, _, rfl, rfl, Int.natCast_nonneg _, _, _, rfl, rfl, rfl, ?_⟩
        refine ⟨_, rfl, ?_⟩
        show if decide (V.int (Builtin.bitAnd ((m : Int) / 2 ^ (e.2 : Int).toNat) 1) = V.int 1) = true then _ else _
        rw [bit1]
        cases c2 : m.testBit e.2 with
        | false => exact iteF (iteF (fin0 (by rw [c2]; rfl)))
        | true =>
          refine iteT ?_
          refine ⟨_, rfl, _, rfl, _, _, rfl, rfl, rfl, ?_⟩
          refine ⟨_, rfl, ?_⟩
          show if decide (V.int (Builtin.bitAnd (m : Int) (R : Int)) = V.int 0) = true then _ else _
          rw [and0]
          cases c1 : (m &&& R == 0) with
          | false => exact iteF (fin0 (by rw [c1, c2]; rfl))
          | true =>
            refine iteT ?_
            have ee : ((masks n).map (need hs))[j]? = some (((masks n).map (need hs)).getD j 0) := by
              rw [List.getD_eq_getElem?_getD, List.getElem?_eq_getElem (by rw [List.length_map]; exact hml2)]
              rfl
            have nin : (decide (j < j) && (((masks n).getD j 0).testBit e.2 && ((masks n).getD j 0 &&& R == 0))) = false := by simp
            have eg := decIf_at (c := fun k => decide (k < j) && (((masks n).getD k 0).testBit e.2 && ((masks n).getD k 0 &&& R == 0))) ee nin
            have ln5 := G5.ln
            refine ⟨_, rfl, g, _, dx, fs, _, rfl, hg5, T.c_Growing, T.n_kept_needed, F.needed, _, rfl, G'.ln, _, j, _, rfl, rfl, SqL.of ln5, by rw [List.getElem?_map, eg]; rfl, _, _, rfl, rfl, G'.ln, _, _, j, rfl, rfl, ln5, ?_, ?_⟩
            · rw [List.length_map, decIf_len, List.length_map]
              exact ixNn hml2
            · rw [ints_set]
              refine ⟨f5.trans (FrG.but (by unfold GA.mu; simp) ebut_upd), ?_, ?_, _, _, rfl⟩
              · rw [upd_ne (ne_of hg5 ln5 (fun z => nomatch z))]; exact hg5
              · refine G5.setN ebut_upd ?_ (by rw [decIf_len, decIf_len])
                rw [upd_same]
                rw [decIf_set (c := fun k => decide (k < j) && (((masks n).getD k 0).testBit e.2 && ((masks n).getD k 0 &&& R == 0))) (c' := fun k => decide (k < j + 1) && (((masks n).getD k 0).testBit e.2 && ((masks n).getD k 0 &&& R == 0))) ee nin]
                · rw [getD_of hm, c1, c2]
                  simp
                · intro k hk
                  have : decide (k < j + 1) = decide (k < j) := by
                    rw [Bool.eq_iff_iff, decide_eq_true_eq, decide_eq_true_eq]
                    omega
                  rw [this]
      · rintro σ H4 ⟨f4, hg4, G4, v3, v4, rfl⟩
        rw [vns_len, decIf_need (p := p) (R := R) (b := e.2) hp hb (fun k m hk => by
          have hlt := (List.getElem?_eq_some_iff.mp hk).1
          rw [getD_of hk, decide_eq_true hlt, Bool.true_and])] at G4
        refine ⟨_, rfl, _, rfl, _, _, rfl, rfl, ⟨by omega, by omega, by decide⟩, ?_⟩
        refine ⟨_, _, rfl, rfl, ?_⟩
        refine ⟨_, rfl, g, _, dx, fs, _, rfl, hg4, T.c_Growing, T.n_kept_heard, F.heard, _, rfl, G'.lh, _, _, p, rfl, rfl, G4.lh, ?_, ?_⟩
        · rw [vns_len]
          exact ixNn (List.getElem?_eq_some_iff.mp hp).1
        · have ev : V.int ((R : Int) + 1 * 2 ^ (e.2 : Int).toNat) = vn (R + 2 ^ e.2) := by
            unfold vn
            rw [Int.one_mul, Int.toNat_natCast, Int.natCast_add, Int.natCast_pow]
            rfl
          show Q .non (upd H4 G'.lh (.lst ((vns hs).set p (V.int ((R : Int) + 1 * 2 ^ (e.2 : Int).toNat)))))
          rw [ev, vns_set]
          exact k _ (f4.trans (FrG.but (by unfold GA.mu; simp) ebut_upd)) (G4.setH ebut_upd upd_same (List.length_set ..))
end
end Spt

set_option Elab.async false
set_option linter.all false
/-! what holds while parts grow -/
namespace Spt
/-- pairs, one by one -/
def AllTwo (F : List Nat → Nat → Prop) (Ts : List (List Nat)) (hs : List Nat) : Prop := Ts.length = hs.length ∧ ∀ (p : Nat) (T : List Nat) (R : Nat), Ts[p]? = some T → hs[p]? = some R → F T R
def useSum (Ts : List (List Nat)) (i : Nat) : Nat := (Ts.map fun T => T.count i).sum
structure GInv (n : Nat) (es : List (Nat × Nat)) (root : Nat) (us0 us hs : List Nat) (Ts : List (List Nat)) : Prop where
  holds : Holds n es us hs
  gr : AllTwo (Grown es root) Ts hs
  lu : us.length = us0.length
  tally : ∀ i u0 u, us0[i]? = some u0 → us[i]? = some u → u0 = u + useSum Ts i
theorem useSum_set {i : Nat} {T T' : List Nat} : ∀ {Ts : List (List Nat)} {p : Nat}, Ts[p]? = some T → useSum (Ts.set p T') i + T.count i = useSum Ts i + T'.count i
  | [], p, h => by simp at h
  | T0 :: Ts, 0, h => by
    simp only [List.getElem?_cons_zero, Option.some.injEq] at h
    subst h
    unfold useSum
    rw [List.set_cons_zero, List.map_cons, List.map_cons, List.sum_cons, List.sum_cons]
    omega
  | T0 :: Ts, p + 1, h => by
    have ih := useSum_set (i := i) (T := T) (T' := T') (Ts := Ts) (p := p) (by simpa using h)
    unfold useSum at ih ⊢
    rw [List.set_cons_succ, List.map_cons, List.map_cons, List.sum_cons, List.sum_cons]
    omega
variable {n root : Nat} {es : List (Nat × Nat)} {us0 us hs : List Nat} {Ts : List (List Nat)}
theorem GInv.at (G : GInv n es root us0 us hs Ts) {p R : Nat} (hp : hs[p]? = some R) : ∃ T, Ts[p]? = some T ∧ Grown es root T R := by
  have hl := (List.getElem?_eq_some_iff.mp hp).1
  have h2 : Ts[p]? = some (Ts[p]'(by rw [G.gr.1]; exact hl)) := List.getElem?_eq_getElem _
  exact ⟨_, h2, G.gr.2 p _ R h2 hp⟩
theorem GInv.step (G : GInv n es root us0 us hs Ts) {p R i u : Nat} {e : Nat × Nat} {T : List Nat} (hp : hs[p]? = some R) (hT : Ts[p]? = some T) (he : es[i]? = some e) (hu : us[i]? = some u) (h0 : 0 < u) (sf : Safe n es us hs R e) :
    GInv n es root us0 (us.set i (u - 1)) (hs.set p (R + 2 ^ e.2)) (Ts.set p (T ++ [i])) := by
  refine ⟨G.holds.step he hu h0 hp sf, ⟨by rw [List.length_set, List.length_set]; exact G.gr.1, fun q T' R' h1 h2 => ?_⟩, by rw [List.length_set]; exact G.lu, fun j u0 v h1 h2 => ?_⟩
  · rw [List.getElem?_set] at h1 h2
    by_cases c : p = q
    · subst c
      have l1 := (List.getElem?_eq_some_iff.mp hp).1
      have l2 := (List.getElem?_eq_some_iff.mp hT).1
      rw [if_pos rfl, if_pos l2] at h1
      rw [if_pos rfl, if_pos l1] at h2
      cases h1; cases h2
      exact .snoc (G.gr.2 p T R hT hp) he sf.1 sf.2.1
    · rw [if_neg c] at h1 h2
      exact G.gr.2 q T' R' h1 h2
  · have q := useSum_set (i := j) (T' := T ++ [i]) hT
    rw [List.count_append] at q
    rw [List.getElem?_set] at h2
    by_cases c : i = j
    · subst c
      rw [if_pos rfl, if_pos (List.getElem?_eq_some_iff.mp hu).1] at h2
      cases h2
      have t := G.tally i u0 u h1 hu
      have : List.count i [i] = 1 := by simp
      omega
    · rw [if_neg c] at h2
      have t := G.tally j u0 v h1 h2
      have : List.count j [i] = 0 := by
        rw [List.count_eq_zero]
        intro z
        exact c (List.mem_singleton.mp z).symm
      omega
/-- at the start -/
theorem GInv.init {k : Nat} (h : Holds n es us (List.replicate k (2 ^ root))) : GInv n es root us us (List.replicate k (2 ^ root)) (List.replicate k []) := by
  refine ⟨h, ⟨by rw [List.length_replicate, List.length_replicate], fun p T R h1 h2 => ?_⟩, rfl, fun i u0 u h1 h2 => ?_⟩
  · rw [List.getElem?_replicate] at h1 h2
    split at h1
    · rename_i c
      rw [if_pos c] at h2
      cases h1; cases h2
      exact .nil
    · cases h1
  · rw [h1] at h2
    cases h2
    have : useSum (List.replicate k []) i = 0 := by
      unfold useSum
      rw [List.map_replicate]
      simp
    omega
end Spt

set_option Elab.async false
set_option linter.all false
set_option maxRecDepth 100000
set_option maxHeartbeats 4000000
/-! growing.py: grow -/
namespace Spt
open PySem PySem.Spec PyProof.Rows L2
theorem enK_keys : ∀ (b : Nat) (xs : List V), (enK b xs).map (·.1) = (List.range' b xs.length).map numK
  | _, [] => rfl
  | b, x :: xs => by
    show numK b :: (enK (b + 1) xs).map (·.1) = _
    rw [enK_keys (b + 1) xs, List.length_cons, List.range'_succ]
    rfl
theorem sorted_uniq : ∀ {l m : List Int}, l.Perm m → l.Pairwise (· ≤ ·) → m.Pairwise (· ≤ ·) → l = m := fun h h1 h2 =>
  List.Perm.eq_of_pairwise (fun a b _ _ p q => Int.le_antisymm p q) h1 h2 h
theorem range_sorted (n : Nat) : ((List.range n).map fun i : Nat => (i : Int)).Pairwise (· ≤ ·) := by
  rw [List.pairwise_map]
  exact List.pairwise_lt_range.imp fun h => by omega
theorem safe_iff {n u R : Nat} {e : Nat × Nat} {es : List (Nat × Nat)} {us hs : List Nat} (h2 : 2 ≤ n) (h : n ≤ 10) :
    safeB (masks n) ((masks n).map (ent es us)) ((masks n).map (need hs)) u R e = true ↔ 0 < u ∧ Safe n es us hs R e := by
  have bad : ∀ k m, (masks n)[k]? = some m → badAt (masks n) ((masks n).map (ent es us)) ((masks n).map (need hs)) R k = (!(m &&& R == 0) && decide (ent es us m ≤ need hs m)) := fun k m hk => by
    unfold badAt
    rw [getD_of hk, getD_of (x := ent es us m) (by rw [List.getElem?_map, hk]; rfl), getD_of (x := need hs m) (by rw [List.getElem?_map, hk]; rfl)]
  unfold safeB Safe
  rw [Bool.and_eq_true, Bool.and_eq_true, Bool.and_eq_true, Bool.not_eq_true', Bool.not_eq_true', beq_eq_false_iff_ne, List.all_eq_true]
  constructor
  · rintro ⟨⟨⟨a1, a2⟩, a3⟩, a4⟩
    refine ⟨by omega, a2, a3, fun m m0 mn en nz => ?_⟩
    obtain ⟨k, hk⟩ := List.getElem?_of_mem (masks_all h2 h m0 mn)
    have hkl := (List.getElem?_eq_some_iff.mp hk).1
    have q := a4 k (List.mem_filter.mpr ⟨List.mem_range.mpr hkl, by rw [getD_of hk]; exact en⟩)
    rw [bad k m hk, Bool.not_eq_true', Bool.and_eq_false_iff] at q
    rcases q with q | q
    · rw [Bool.not_eq_false', beq_iff_eq] at q
      exact (nz q).elim
    · have := of_decide_eq_false q
      omega
  · rintro ⟨a1, a2, a3, a4⟩
    refine ⟨⟨⟨by omega, a2⟩, a3⟩, fun k hk => ?_⟩
    obtain ⟨hk1, hk2⟩ := List.mem_filter.mp hk
    have hkl := List.mem_range.mp hk1
    have hk : (masks n)[k]? = some (masks n)[k] := List.getElem?_eq_getElem hkl
    rw [getD_of hk] at hk2
    rw [bad k _ hk, Bool.not_eq_true', Bool.and_eq_false_iff]
    have hmem : (masks n)[k] ∈ masks n := List.getElem_mem hkl
    obtain ⟨l, hl1, hl2⟩ := List.mem_map.mp hmem
    have hb := lots_mem h2 h hl1
    rw [hl2] at hb
    by_cases c : (masks n)[k] &&& R = 0
    · left
      rw [c]; rfl
    · right
      have := a4 _ hb.2.1 hb.2.2 hk2 c
      exact decide_eq_false (by omega)
section
variable {P : Program} {w : World} {K : PySem.W.Frag} {mg : Str → Option Value} {base : Heap}
theorem scGrow : FnScope ["self", "part", "link"] ["self", "part"] (defScope sCGrowingGrow) := ⟨rfl, rfl, rfl, by decide +kernel, rfl, by decide +kernel, by decide +kernel⟩
def spGrow (K : PySem.W.Frag) : Sp := fun vs H Q _ => ∃ (g : Addr) (A : GA) (n root p : Nat) (es : List (Nat × Nat)) (us0 us hs : List Nat) (Ts : List (List Nat)), vs = [.ref g, vn p] ∧ GS K H g A n es us hs Ts ∧ GInv n es root us0 us hs Ts ∧ root < n ∧ p < hs.length ∧
  ∀ H' us' hs' Ts', FrG A H H' → GS K H' g A n es us' hs' Ts' → GInv n es root us0 us' hs' Ts' → hs'[p]? = some (2 ^ n - 1) → (∀ q, q ≠ p → hs'[q]? = hs[q]?) → hs'.length = hs.length → Q .non H'
theorem okGrow (T : Txt K mg) : FnK P w K mg base CX0 3 (He.ma K (He.ga K "Growing") "grow") ["self", "part"] (spGrow K) := by
  refine FnK.of T.d_CGrowingGrow scGrow (fun _ _ _ _ _ _ us hl => match us, hl with | [_, _], _ => rfl) (fun vs H Q E h => ?_) (fun cdv A outer s H vs Q E hr h => ?_)
  · obtain ⟨g, A, n, root, p, es, us0, us, hs, Ts, rfl, _⟩ := h
    rfl
  · obtain ⟨g, GA', n, root, p, es, us0, us, hs, Ts, rfl, G, GI, hroot, hp, k⟩ := h
    refine ⟨_, pss_one (ps_while PassesOwn.never (pt_cmpR op_lt (pe_ix ix_list (pe_fld (pv 0) rfl) (pv 1) (fun _ _ => rfl)) (pe_op op_sub (pe_op op_shl pe_int (pe_fld (pv 0) rfl)) pe_int) (nomark _))
      (pss_one (ps_expr (clm ((okTake T).mono (by decide)) hr T.c_Growing T.m_take (pv 0) (a2 (pv 1) (pe_ix ix_list (lct 2 (pi_list (cb (call_sortedDI rfl) T.f_sorted (a1 (pe_fld (pv 0) rfl)))) (fun _ _ _ _ _ => pt_val (clm (okIsSafe T) hr T.c_Growing T.m_is_safe (pv 0) (a2 (pv 1) (pv 2)))) (fun _ _ _ _ _ => pv 2) scGrow) pe_int (fun _ _ => rfl))))))), ?_⟩
    refine ⟨fun m σ H1 => ∃ us1 hs1 Ts1 R, σ = [some (.ref g), some (vn p), none] ∧ FrG GA' H H1 ∧ GS K H1 g GA' n es us1 hs1 Ts1 ∧ GInv n es root us0 us1 hs1 Ts1 ∧ hs1[p]? = some R ∧ (∀ q, q ≠ p → hs1[q]? = hs[q]?) ∧ hs1.length = hs.length ∧ m = 2 ^ n - R,
      ⟨_, us, hs, Ts, hs[p], rfl, FrG.refl _ _, G, GI, List.getElem?_eq_getElem hp, fun _ _ => rfl, rfl, rfl⟩, ?_⟩
    rintro m σ H1 ⟨us1, hs1, Ts1, R, rfl, f1, G1, GI1, hR, hq, hl, rfl⟩
    obtain ⟨dx, fs, hg, F⟩ := G1.ins
    obtain ⟨Tp, hTp, gr⟩ := GI1.at hR
    have hRn := gr.size hroot G1.lks2
    have n10 := G1.n10
    refine ⟨_, rfl, g, _, dx, fs, _, rfl, hg, T.c_Growing, T.n_kept_heard, F.heard, _, rfl, _, _, _, _, rfl, rfl, SqL.of G1.lh, atI_nat (vns_at hR), ?_⟩
    refine ⟨_, rfl, g, _, dx, fs, _, rfl, hg, T.c_Growing, T.n_kept_many, F.many, _, _, rfl, rfl, ⟨by omega, by omega, by decide⟩, ?_⟩
    refine ⟨_, _, rfl, rfl, ?_⟩
    refine ⟨_, _, rfl, rfl, ?_⟩
    have ex : (1 : Int) * 2 ^ (n : Int).toNat - 1 = ((2 ^ n - 1 : Nat) : Int) := by
      have h1 : 1 ≤ 2 ^ n := Nat.one_le_two_pow
      rw [Int.one_mul, Int.toNat_natCast, Int.natCast_sub h1, Int.natCast_pow]
      rfl
    by_cases c : R = 2 ^ n - 1
    · refine ⟨false, blF (p := (R : Int) < 1 * 2 ^ (n : Int).toNat - 1) (by rw [ex]; omega), ?_⟩
      refine iteF ?_
      exact k H1 us1 hs1 Ts1 f1 G1 GI1 (by rw [hR, c]) hq hl
    · refine ⟨true, blT (p := (R : Int) < 1 * 2 ^ (n : Int).toNat - 1) (by rw [ex]; omega), ?_⟩
      refine iteT ?_
      -- a safe link
      obtain ⟨i0, e0, u0, he0, hu0, hu0p, sf0⟩ := safe_exists G1.lks2 GI1.holds (List.mem_of_getElem? hR) hRn c
      refine ⟨fun σ' H' => ∃ us2 hs2 Ts2 R2, σ' = [some (.ref g), some (vn p), none] ∧ FrG GA' H H' ∧ GS K H' g GA' n es us2 hs2 Ts2 ∧ GInv n es root us0 us2 hs2 Ts2 ∧ hs2[p]? = some R2 ∧ (∀ q, q ≠ p → hs2[q]? = hs[q]?) ∧ hs2.length = hs.length ∧ R < R2 ∧ R2 < 2 ^ n, fun σ' H' h => ?_, ?_⟩
      · obtain ⟨us2, hs2, Ts2, R2, a1, a2, a3, a4, a5, a6, a7, a8, a9⟩ := h
        exact ⟨2 ^ n - R2, by omega, us2, hs2, Ts2, R2, a1, a2, a3, a4, a5, a6, a7, rfl⟩
      · refine ⟨_, rfl, g, dx, fs, rfl, hg, F.m3, ?_⟩
        refine ⟨_, rfl, ?_⟩
        have hkeys : (enK 0 (vns us1)).map (·.1) = ((List.range us1.length).map fun i : Nat => (i : Int)).map Sum.inl := by
          rw [enK_keys, vns_len, List.map_map, List.range_eq_range']
          rfl
        have l60 := G1.l60
        have lu := G1.lu
        refine ⟨_, rfl, g, _, dx, fs, _, rfl, hg, T.c_Growing, T.n_kept_uses, F.uses, GA'.du, _, _, rfl, .inl G1.du, hkeys, by rw [List.length_map, List.length_range]; omega, fun ys D perm srt hD => ?_⟩
        have eys := sorted_uniq perm srt (range_sorted _)
        subst eys
        rw [← vns_eq]
        refine ⟨D, rfl, ⟨_, SqL.of upd_same⟩, fun D2 hD2 => ?_⟩
        have s1 : Same H1 (upd H1 D (.lst (vns (List.range us1.length)))) := same_new hD
        have d1 : upd H1 D (.lst (vns (List.range us1.length))) D = some (.lst (vns (List.range us1.length))) := upd_same
        revert s1 d1 hD2
        generalize upd H1 D (.lst (vns (List.range us1.length))) = H2
        intro hD2 s1 d1
        have G2 := G1.same s1
        -- the links that are safe
        have sf : ∀ i, i < us1.length → ∃ u e, us1[i]? = some u ∧ es[i]? = some e := fun i hi =>
          ⟨_, _, List.getElem?_eq_getElem hi, List.getElem?_eq_getElem (by omega)⟩
        let pr : Nat → Bool := fun i => safeB (masks n) ((masks n).map (ent es us1)) ((masks n).map (need hs1)) (us1.getD i 0) R (es.getD i (0, 0))
        refine comp_list (K := K) (List.range us1.length) vn pr (fun _ x y => y = vn x) hD2 (SqL.of d1) (by rw [List.length_range, sizeLine_eq]; omega) (fun _ _ _ _ _ h => h) (fun _ => rfl) (fun i hi H3 s3 Qb q => ?_) (fun i hi _ H3 s3 _ Qv q => ⟨_, rfl, q _ H3 (Same.refl _) rfl⟩) (fun H3 ys s3 d3 r => ?_)
        · obtain ⟨u, e, hu, he⟩ := sf i (List.mem_range.mp hi)
          obtain ⟨dx3, fs3, hg3, F3⟩ := (G2.same s3).ins
          refine ⟨_, rfl, g, dx3, fs3, rfl, hg3, F3.m2, _, rfl, _, rfl, g, GA', n, p, i, u, R, es, us1, hs1, Ts1, _, _, e, rfl, G2.same s3, hu, he, hR, fun H4 s4 => ?_⟩
          refine ⟨_, rfl, ?_⟩
          have : pr i = safeB (masks n) ((masks n).map (ent es us1)) ((masks n).map (need hs1)) u R e := by
            show safeB _ _ _ (us1.getD i 0) R (es.getD i (0, 0)) = _
            rw [getD_of hu, getD_of he]
          rw [← this]
          exact q H4 s4
        · have e := Paired.eq_map r
          subst e
          have hmem : i0 ∈ (List.range us1.length).filter pr := by
            refine List.mem_filter.mpr ⟨List.mem_range.mpr (List.getElem?_eq_some_iff.mp hu0).1, ?_⟩
            show safeB _ _ _ (us1.getD i0 0) R (es.getD i0 (0, 0)) = true
            rw [getD_of hu0, getD_of he0]
            exact (safe_iff G1.n2 G1.n10).mpr ⟨hu0p, sf0⟩
          have hpos := List.length_pos_of_mem hmem
          obtain ⟨i, hi⟩ : ∃ i, ((List.range us1.length).filter pr)[0]? = some i := ⟨_, List.getElem?_eq_getElem hpos⟩
          have himem := List.mem_filter.mp (List.mem_of_getElem? hi)
          obtain ⟨u, e, hu, he⟩ := sf i (List.mem_range.mp himem.1)
          have sfi : 0 < u ∧ Safe n es us1 hs1 R e := by
            have q := himem.2
            have : pr i = safeB (masks n) ((masks n).map (ent es us1)) ((masks n).map (need hs1)) u R e := by
              show safeB _ _ _ (us1.getD i 0) R (es.getD i (0, 0)) = _
              rw [getD_of hu, getD_of he]
            rw [this] at q
            exact (safe_iff G1.n2 G1.n10).mp q
          refine ⟨D2, _, (0 : Nat), vn i, rfl, rfl, SqL.of d3, atI_nat (by rw [List.getElem?_map, hi]; rfl), ?_⟩
          have G3 := G2.same s3
          have hlen : Tp.length ≤ 1000 := by
            have q := gr.pop hroot G1.lks2
            have q2 : pop n R ≤ n := by
              unfold pop
              refine Nat.le_trans (List.length_filter_le _ _) ?_
              rw [List.length_range]
              exact Nat.le_refl _
            omega
          refine ⟨g, GA', n, p, i, u, R, es, us1, hs1, Ts1, e, Tp, rfl, G3, hu, sfi.1, he, hR, sfi.2.2.1, hTp, hlen, fun H4 f4 G4 => ?_⟩
          have hb := (G1.lks2 e (List.mem_of_getElem? he)).2.1
          refine ⟨_, _, _, R + 2 ^ e.2, rfl, (f1.trans (FrG.same (s1.trans s3))).trans f4, G4, GI1.step hR hTp he hu sfi.1 sfi.2, ?_, fun q hq2 => ?_, ?_, ?_, ?_⟩
          · rw [List.getElem?_set_self (by omega)]
          · rw [List.getElem?_set_ne (Ne.symm hq2)]
            exact hq q hq2
          · rw [List.length_set]; exact hl
          · have := Nat.two_pow_pos e.2
            omega
          · exact add_pow_lt hRn hb sfi.2.2.1
end
end Spt

set_option Elab.async false
set_option linter.all false
set_option maxRecDepth 100000
set_option maxHeartbeats 4000000
/-! growing.py: grown -/
namespace Spt
open PySem PySem.Spec PyProof.Rows L2
def rTupOf (K : PySem.W.Frag) : List V → Hp → VK → Prop := fun xs H Q => ∃ p ys, xs = [.ref p] ∧ ((SqL K H p ys ∧ ∀ l, H l = none → Q (.ref l) (upd H l (.tup ys))) ∨ (SqT K H p ys ∧ Q (.ref p) H))
theorem tupOf {X : Cx} (K : PySem.W.Frag) (h : X.K = K := by rfl) : CallR X (.type "tuple") (rTupOf K) := by
  subst h
  exact call_tuple_of
theorem srtI {X : Cx} (K : PySem.W.Frag) (h : X.K = K := by rfl) : CallR X (.builtin "sorted") (rSortedI K) := by
  subst h
  exact cr_sortedI
/-- ints that are numbers -/
theorem perm_nats {l : List Nat} {ys : List Int} (h : ys.Perm (l.map fun n : Nat => (n : Int))) (hs : ys.Pairwise (· ≤ ·)) : ∃ L : List Nat, ys = (L.map fun n : Nat => (n : Int)) ∧ L.Perm l ∧ L.Pairwise (· ≤ ·) := by
  have e : ys = ((ys.map Int.toNat).map fun n : Nat => (n : Int)) := by
    rw [List.map_map]
    refine (List.map_id _).symm.trans (List.map_congr_left fun y hy => ?_)
    obtain ⟨n, _, rfl⟩ := List.mem_map.mp (h.mem_iff.mp hy)
    simp
  refine ⟨ys.map Int.toNat, e, ?_, ?_⟩
  · have := h.map Int.toNat
    rw [List.map_map] at this
    have e2 : l.map (Int.toNat ∘ fun n : Nat => (n : Int)) = l := (List.map_congr_left fun n _ => Int.toNat_natCast n).trans (List.map_id _)
    rwa [e2] at this
  · rw [List.pairwise_map]
    exact hs.imp fun {a b} q => Int.toNat_le_toNat q
section
variable {P : Program} {w : World} {K : PySem.W.Frag} {mg : Str → Option Value} {base : Heap}
theorem scGrown : FnScope ["self", "part", "links"] ["self"] (defScope sCGrowingGrown) := ⟨rfl, rfl, rfl, by decide +kernel, rfl, by decide +kernel, by decide +kernel⟩
/-- the sorted ones -/
def SortedOf (Ts Ls : List (List Nat)) : Prop := Paired (fun (T L : List Nat) => L.Perm T ∧ L.Pairwise (· ≤ ·)) Ts Ls
def spGrown (K : PySem.W.Frag) : Sp := fun vs H Q _ => ∃ (g : Addr) (A : GA) (n root : Nat) (es : List (Nat × Nat)) (us0 us hs : List Nat) (Ts : List (List Nat)), vs = [.ref g] ∧ GS K H g A n es us hs Ts ∧ GInv n es root us0 us hs Ts ∧ root < n ∧
  ∀ H' t as Ls us' Ts', FrG A H H' → H' t = some (.tup (as.map V.ref)) → LotsO H' as Ls → SortedOf Ts' Ls → GInv n es root us0 us' (List.replicate hs.length (2 ^ n - 1)) Ts' → Q (.ref t) H'
theorem okGrown (T : Txt K mg) : FnK P w K mg base CX0 4 (He.ma K (He.ga K "Growing") "grown") ["self"] (spGrown K) := by
  refine FnK.of T.d_CGrowingGrown scGrown (fun _ _ _ _ _ _ us hl => match us, hl with | [_], _ => rfl) (fun vs H Q E h => ?_) (fun cdv A outer s H vs Q E hr h => ?_)
  · obtain ⟨g, A, n, root, es, us0, us, hs, Ts, rfl, _⟩ := h
    rfl
  · obtain ⟨g, GA', n, root, es, us0, us, hs, Ts, rfl, G, GI, hroot, k⟩ := h
    refine ⟨_, pss_cons (ps_for PassesOwn.never rfl (pi_range1 rfl T.f_range (a1 (cb call_len T.f_len (a1 (pe_fld (pv 0) rfl))))) (pg_name (i := 1) scGrown.nd rfl (.inl rfl))
        (pss_one (ps_expr (clm (okGrow T) hr T.c_Growing T.m_grow (pv 0) (a1 (pv 1))))))
      (pss_one (ps_ret (ct call_tuple_of T.f_tuple (a1 (lcn 2 (pi_list (pe_fld (pv 0) rfl)) (fun _ _ _ _ _ => ct (tupOf K) T.f_tuple (a1 (cb (srtI K) T.f_sorted (a1 (pv 2))))) scGrown))))), ?_⟩
    obtain ⟨dx, fs, hg, F⟩ := G.ins
    have l100 := G.l100
    refine ⟨_, rfl, g, _, dx, fs, _, rfl, hg, T.c_Growing, T.n_kept_heard, F.heard, _, hs.length, rfl, .inl ⟨_, SqL.of G.lh, (vns_len hs).symm⟩, (hs.length : Int), rfl, by omega, by omega, ?_⟩
    rw [Int.toNat_natCast]
    refine for_range (lo := 0) (n := hs.length) (fun j σ H1 => FrG GA' H H1 ∧ ∃ us1 hs1 Ts1, (∃ v, σ = [some (.ref g), v, none]) ∧ GS K H1 g GA' n es us1 hs1 Ts1 ∧ GInv n es root us0 us1 hs1 Ts1 ∧ hs1.length = hs.length ∧ ∀ q, q < j → hs1[q]? = some (2 ^ n - 1))
      ⟨FrG.refl _ _, us, hs, Ts, ⟨none, rfl⟩, G, GI, rfl, fun q hq => absurd hq (Nat.not_lt_zero q)⟩ ?_ ?_
    · rintro j σ H1 hj ⟨f1, us1, hs1, Ts1, ⟨v, rfl⟩, G1, GI1, hl1, hq1⟩
      obtain ⟨dx1, fs1, hg1, F1⟩ := G1.ins
      have ej : V.int (0 + (j : Int)) = vn j := by unfold vn; rw [Int.zero_add]
      refine ⟨_, rfl, g, dx1, fs1, rfl, hg1, F1.m4, _, rfl, g, GA', n, root, j, es, us0, us1, hs1, Ts1, ?_, G1, GI1, hroot, by omega, fun H2 us2 hs2 Ts2 f2 G2 GI2 c1 c2 c3 => ?_⟩
      · rw [ej]; rfl
      · refine ⟨f1.trans f2, us2, hs2, Ts2, ⟨_, rfl⟩, G2, GI2, by omega, fun q hq => ?_⟩
        by_cases e : q = j
        · rw [e]; exact c1
        · rw [c2 q e]; exact hq1 q (by omega)
    · rintro σ H1 ⟨f1, us1, hs1, Ts1, ⟨v, rfl⟩, G1, GI1, hl1, hq1⟩
      obtain ⟨dx1, fs1, hg1, F1⟩ := G1.ins
      have eh : hs1 = List.replicate hs.length (2 ^ n - 1) := by
        refine List.ext_getElem? fun q => ?_
        rw [List.getElem?_replicate]
        by_cases c : q < hs.length
        · rw [if_pos c]; exact hq1 q c
        · rw [if_neg c]
          exact List.getElem?_eq_none (by omega)
      subst eh
      refine ⟨_, rfl, g, _, dx1, fs1, _, rfl, hg1, T.c_Growing, T.n_kept_parts, F1.parts, GA'.lp, rfl, ⟨_, SqL.of G1.lp⟩, fun D hD => ?_⟩
      obtain ⟨ps, e1, e2, e3⟩ := Paired.zipd G1.ps
      have hlp : SqL K H1 GA'.lp (ps.map fun q => V.ref q.1) := by
        have q := SqL.of (K := K) G1.lp
        rw [e1, List.map_map] at q
        exact q
      have lps : ps.length = hs.length := by
        have q := G1.lT
        rw [e2, List.length_map] at q
        omega
      refine comp_list (K := K) ps (fun q => V.ref q.1) (fun _ => true) (fun H' q y => ∃ a L, y = .ref a ∧ a ≠ D ∧ H' a = some (.tup (vns L)) ∧ L.Perm q.2 ∧ L.Pairwise (· ≤ ·)) hD hlp (by rw [sizeLine_eq]; omega) (fun Ha Hb x y eb h => ?_) (fun _ => rfl) (fun x _ H3 s3 Qb q => q H3 (Same.refl _)) (fun q hm _ H3 s3 hyD Qv qq => ?_) (fun H3 ys s3 d3 r => ?_)
      · obtain ⟨a, L, h1, h2, h3, h4⟩ := h
        exact ⟨a, L, h1, h2, eb _ _ h2 h3, h4⟩
      · have hp := s3 _ _ (e3 q hm)
        rw [vns_eq] at hp
        refine ⟨_, rfl, q.1, _, rfl, SqL.of hp, fun ys p perm srt hp2 => ?_⟩
        obtain ⟨L, rfl, pL, sL⟩ := perm_nats perm srt
        rw [← vns_eq]
        refine ⟨p, _, rfl, .inl ⟨SqL.of upd_same, fun l hl => ?_⟩⟩
        obtain ⟨yD, hyD⟩ := hyD
        have s4 : Same H3 (upd H3 p (.lst (vns L))) := same_new hp2
        refine qq (.ref l) _ (s4.trans (same_new hl)) ⟨l, L, rfl, ?_, upd_same, pL, sL⟩
        exact Ne.symm (ne_of_none (s4 _ _ hyD) hl)
      · rw [List.filter_eq_self.mpr (fun _ _ => rfl)] at r
        have key : ∀ {ps : List (Addr × List Nat)} {ys : List V}, Paired (fun (q : Addr × List Nat) (y : V) => ∃ a L, y = .ref a ∧ a ≠ D ∧ H3 a = some (.tup (vns L)) ∧ L.Perm q.2 ∧ L.Pairwise (· ≤ ·)) ps ys →
            ∃ (as : List Addr) (Ls : List (List Nat)), ys = as.map V.ref ∧ LotsO H3 as Ls ∧ SortedOf (ps.map (·.2)) Ls := by
          intro ps ys h
          induction h with
          | nil => exact ⟨[], [], rfl, .nil, .nil⟩
          | cons h _ ih =>
            obtain ⟨a, L, rfl, _, h3, h4⟩ := h
            obtain ⟨as, Ls, rfl, i1, i2⟩ := ih
            exact ⟨a :: as, L :: Ls, rfl, .cons h3 i1, .cons h4 i2⟩
        obtain ⟨as, Ls, rfl, i1, i2⟩ := key r
        rw [← e2] at i2
        refine ⟨D, _, rfl, .inl ⟨SqL.of d3, fun t ht => ?_⟩⟩
        have s4 : Same H3 (upd H3 t (.tup (as.map V.ref))) := same_new ht
        exact k _ t as Ls us1 Ts1 (f1.trans (FrG.same (s3.trans s4))) upd_same (i1.same s4) i2 GI1
end
end Spt

set_option Elab.async false
set_option linter.all false
/-! a list of ints, more by d at some places -/
namespace Spt
def addIf (d : Int) (c : Nat → Bool) (ev : List Int) : List Int := ev.mapIdx fun k x => x + if c k then d else 0
theorem addIf_len (d : Int) (c : Nat → Bool) (ev : List Int) : (addIf d c ev).length = ev.length := List.length_mapIdx
theorem addIf_get (d : Int) (c : Nat → Bool) (ev : List Int) (k : Nat) : (addIf d c ev)[k]? = ev[k]?.map fun x => x + if c k then d else 0 := by
  unfold addIf
  rw [List.getElem?_mapIdx]
theorem addIf_none {d : Int} {c : Nat → Bool} {ev : List Int} (h : ∀ k, k < ev.length → c k = false) : addIf d c ev = ev := by
  refine List.ext_getElem? fun k => ?_
  rw [addIf_get]
  cases e : ev[k]? with
  | none => rfl
  | some x =>
    have := h k (List.getElem?_eq_some_iff.mp e).1
    simp [this]
theorem addIf_set {d : Int} {c c' : Nat → Bool} {ev : List Int} {j : Nat} {x : Int} (hx : ev[j]? = some x) (h0 : c j = false) (h1 : c' j = true) (h : ∀ k, k ≠ j → c' k = c k) : (addIf d c ev).set j (x + d) = addIf d c' ev := by
  refine List.ext_getElem? fun k => ?_
  rw [List.getElem?_set, addIf_len, addIf_get, addIf_get]
  have hj := (List.getElem?_eq_some_iff.mp hx).1
  by_cases e : j = k
  · subst e
    rw [if_pos rfl, if_pos hj, hx, Option.map_some, h1, if_pos rfl]
  · rw [if_neg e, h k (Ne.symm e)]
theorem addIf_at {d : Int} {c : Nat → Bool} {ev : List Int} {j : Nat} {x : Int} (hx : ev[j]? = some x) (h0 : c j = false) : (addIf d c ev)[j]? = some x := by
  rw [addIf_get, hx, Option.map_some, h0]
  simp
theorem ent_snoc (m : Nat) (e : Nat × Nat) (u : Nat) : ∀ (es : List (Nat × Nat)) (us : List Nat), es.length = us.length → ent (es ++ [e]) (us ++ [u]) m = ent es us m + if enters e m then (u : Int) else 0
  | [], [], _ => by simp [ent]
  | e0 :: es, u0 :: us, h => by
    have ih := ent_snoc m e u es us (by simpa using h)
    simp only [List.cons_append, ent, ih]
    omega
  | [], _ :: _, h => by simp at h
  | _ :: _, [], h => by simp at h
theorem addIf_ent {es : List (Nat × Nat)} {us : List Nat} {e : Nat × Nat} {u : Nat} {ms : List Nat} {c : Nat → Bool} (hl : es.length = us.length) (hc : ∀ k m, ms[k]? = some m → c k = enters e m) :
    addIf (u : Int) c (ms.map (ent es us)) = ms.map (ent (es ++ [e]) (us ++ [u])) := by
  refine List.ext_getElem? fun k => ?_
  rw [addIf_get, List.getElem?_map, List.getElem?_map]
  cases em : ms[k]? with
  | none => rfl
  | some m =>
    simp only [Option.map_some]
    rw [ent_snoc m e u es us hl, hc k m em]
end Spt

set_option Elab.async false
set_option linter.all false
set_option maxRecDepth 100000
set_option maxHeartbeats 4000000
/-! growing.py: what __init__ needs -/
namespace Spt
open PySem PySem.Spec PyProof.Rows L2
theorem enK_app : ∀ (b : Nat) (xs : List V) (v : V), enK b (xs ++ [v]) = enK b xs ++ [(numK (b + xs.length), v)]
  | b, [], v => rfl
  | b, x :: xs, v => by
    show (numK b, x) :: enK (b + 1) (xs ++ [v]) = _
    rw [enK_app (b + 1) xs v]
    show _ = ((numK b, x) :: enK (b + 1) xs) ++ [(numK (b + (xs.length + 1)), v)]
    rw [show b + 1 + xs.length = b + (xs.length + 1) by omega]
    rfl
theorem enK_push {xs : List V} {v : V} {i : Nat} (h : i = xs.length) : putK (enK 0 xs) (numK i) v = enK 0 (xs ++ [v]) := by
  rw [putK_new v (by rw [enK_val0]; exact List.getElem?_eq_none (by omega)), enK_app, Nat.zero_add, h]
theorem enK_get : ∀ (b : Nat) (xs : List V) (i : Nat) (p : Key × V), (enK b xs)[i]? = some p → p.1 = numK (b + i) ∧ xs[i]? = some p.2
  | _, [], i, p, h => by simp [enK] at h
  | b, x :: xs, 0, p, h => by
    have h : some (numK b, x) = some p := h
    cases h
    exact ⟨rfl, rfl⟩
  | b, x :: xs, i + 1, p, h => by
    have h : (enK (b + 1) xs)[i]? = some p := h
    obtain ⟨h1, h2⟩ := enK_get (b + 1) xs i p h
    exact ⟨by rw [h1, show b + 1 + i = b + (i + 1) by omega], by simpa using h2⟩
section
variable {K : PySem.W.Frag} {H : Hp} {D : Addr} {σ : L2.St} {vs : List Nat} {j : Nat}
/-- [[] for x in a list]: new lists, apart -/
theorem comp_news {a : Addr} (xs : List V) (hD : H D = none) (hS : SqL K H a xs) (hz : xs.length < sizeLine) (hw : ∀ x : V, wipe ((wipe σ vs).set j (some x)) vs = wipe σ vs)
    {Q : Hp → Prop} (hQ : ∀ H1 (as : List Addr), Same H H1 → H1 D = some (.lst (as.map V.ref)) → as.length = xs.length → as.Nodup → (∀ b ∈ as, H1 b = some (.lst []) ∧ H b = none ∧ b ≠ D) → Q H1) :
    ∃ W : Nat → Nat → Hp → Prop, (∃ m, W 0 m (upd H D (.lst []))) ∧ ∀ i m H1, W i m H1 → ((Itl K a).stop i H1 ∧ Q H1) ∨ ((Itl K a).go i H1 ∧ ∃ Nx : Hp → Prop, (∀ H', Nx H' → ∃ m', m' < m ∧ W (i + 1) m' H') ∧ ∀ x H', (Itl K a).yld i H1 x H' → gName j x (wipe σ vs) H' fun σ2 H2 => wipe σ2 vs = wipe σ vs ∧ tYes σ2 H2 fun b H3 =>
        if b = true then tLst tNil σ2 H3 fun y H4 => ∃ acc, H4 D = some (.lst acc) ∧ acc.length < sizeLine ∧ Nx (upd H4 D (.lst (acc ++ [y]))) else Nx H3) := by
  refine lc_list (g := gName j) (xs := xs) (fun i H1 => Same H H1 ∧ ∃ as : List Addr, H1 D = some (.lst (as.map V.ref)) ∧ as.length = i ∧ as.Nodup ∧ ∀ b ∈ as, H1 b = some (.lst []) ∧ H b = none ∧ b ≠ D) ⟨same_new hD, [], upd_same, rfl, List.nodup_nil, fun _ h => nomatch h⟩ (fun i H1 _ c => c.1.seq hS) (fun i x H1 hi c => ?_) (fun H1 c => ?_)
  · obtain ⟨s1, as, h1, h2, h3, h4⟩ := c
    refine ⟨hw x, ?_⟩
    unfold tYes
    dsimp only
    rw [if_pos rfl]
    refine ⟨by show 0 ≤ sizeLine; omega, fun p hp => ?_⟩
    have hlt := (List.getElem?_eq_some_iff.mp hi).1
    have nDp : D ≠ p := ne_of_none h1 hp
    refine ⟨_, by rw [upd_ne nDp]; exact h1, by rw [List.length_map]; omega, ?_⟩
    have sp : Same H1 (upd H1 p (.lst [])) := same_new hp
    refine ⟨same_mut (s1.trans sp) hD, as ++ [p], by rw [upd_same, List.map_append]; rfl, by rw [List.length_append, h2]; rfl, ?_, fun b hb => ?_⟩
    · refine List.nodup_append.mpr ⟨h3, by simp, fun x hx y hy => ?_⟩
      rw [List.mem_singleton.mp hy]
      exact ne_of_none (h4 x hx).1 hp
    · rcases List.mem_append.mp hb with hb | hb
      · obtain ⟨q1, q2, q3⟩ := h4 b hb
        exact ⟨by rw [upd_ne q3]; exact sp _ _ q1, q2, q3⟩
      · rw [List.mem_singleton.mp hb]
        refine ⟨by rw [upd_ne (Ne.symm nDp), upd_same], ?_, Ne.symm nDp⟩
        cases e : H p with
        | none => rfl
        | some o => rw [s1 _ _ e] at hp; cases hp
  · obtain ⟨s1, as, h1, h2, h3, h4⟩ := c
    exact hQ H1 as s1 h1 h2 h3 h4
/-- a dict comprehension over what walks -/
theorem dc_it {J : It} {n : Nat} {G : Hp → Prop} {Y : Nat → Hp → V → Hp → Prop} (w : Walk J n G Y) {g : TG} {tt : TT} {tk tv : TE} {H1 : Hp} {Qd : Hp → Prop} (Pv : Nat → Hp → Prop) (h0 : Pv 0 (upd H1 D (.dK []))) (hG : ∀ i H, i ≤ n → Pv i H → G H)
    (hs : ∀ i x H H', i < n → Pv i H → Y i H x H' → g x (wipe σ vs) H' fun σ2 H2 => wipe σ2 vs = wipe σ vs ∧ tt σ2 H2 fun b H3 =>
      if b = true then tk σ2 H3 fun y H4 => tv σ2 H4 fun z H5 => ∃ kvs k, y = kV k ∧ H5 D = some (.dK kvs) ∧ kvs.length < sizeLine ∧ Pv (i + 1) (upd H5 D (.dK (putK kvs k z))) else Pv (i + 1) H3) (hd : ∀ H, Pv n H → Qd H) :
    ∃ W : Nat → Nat → Hp → Prop, (∃ m, W 0 m (upd H1 D (.dK []))) ∧ ∀ i m H, W i m H →
      (J.stop i H ∧ Qd H) ∨ (J.go i H ∧ ∃ Nx : Hp → Prop, (∀ H', Nx H' → ∃ m', m' < m ∧ W (i + 1) m' H') ∧ ∀ x H', J.yld i H x H' → g x (wipe σ vs) H' fun σ2 H2 => wipe σ2 vs = wipe σ vs ∧ tt σ2 H2 fun b H3 =>
        if b = true then tk σ2 H3 fun y H4 => tv σ2 H4 fun z H5 => ∃ kvs k, y = kV k ∧ H5 D = some (.dK kvs) ∧ kvs.length < sizeLine ∧ Nx (upd H5 D (.dK (putK kvs k z))) else Nx H3) := by
  refine ⟨fun i m H => m = n - i ∧ i ≤ n ∧ Pv i H, ⟨n, by simp, Nat.zero_le _, h0⟩, ?_⟩
  rintro i m H ⟨rfl, hi, p⟩
  have q := hG i H hi p
  by_cases hlt : i < n
  · exact .inr ⟨w.goes i H hlt q, Pv (i + 1), fun H' p' => ⟨n - (i + 1), by omega, rfl, hlt, p'⟩, fun x H' y => hs i x H H' hlt p (w.yields i H x H' hlt q y)⟩
  · have e : i = n := by omega
    subst e
    exact .inl ⟨w.stops H q, hd H p⟩
end
section
variable {X : Cx} {kx vx iter : Expr} {scope : Scope} {x : Str} {px pos : Pos} {wi : TI} {tk tv : TE}
/-- {k: v for x in ..}, slot i is x -/
theorem dcn (i : Nat) (hi : PI X (.Name x px) iter wi) (hk : ∀ (s : Shared) (H : Hp) (C : Addr) (cl : List (Str × Addr)) (fp : List Addr), PE (X.blk s H scope (compEnvC scope cl C X.env) fp) kx tk) (he : ∀ (s : Shared) (H : Hp) (C : Addr) (cl : List (Str × Addr)) (fp : List Addr), PE (X.blk s H scope (compEnvC scope cl C X.env) fp) vx tv) {N ps : List Str} {sc : Scope} (S : FnScope N ps sc) (eN : X.N = N := by rfl) (eS : X.env.scope = sc := by rfl) (ok : blkC N sc scope [(x, i)] = true := by decide +kernel)
    (hc : X.calm = true := by rfl) (hx : X.N[i]? = some x := by rfl) (hl : (PySem.relabel scope X.env).names.lookup x = some .local := by rfl) (hs : ∀ x, foldedSetIterable iter X.env x = pure x := by intro _; rfl) :
    PE X (.DictComp kx vx [⟨.Name x px, iter, [], 0⟩] scope pos) (tDc wi (gName i) tYes tk tv [i]) :=
  pe_dc (own := [(x, i)]) hc (eN ▸ S.nd) hi (by rw [eN, eS]; exact blkOk_by ok) (fun _ _ _ _ _ => pg_name (eN ▸ S.nd) hx (Or.inl hl) (.inr hl)) (fun _ _ _ _ _ => pts_nil) hk he hs
end
end Spt

set_option Elab.async false
set_option linter.all false
set_option maxRecDepth 100000
set_option maxHeartbeats 8000000
/-! growing.py: __init__ -/
namespace Spt
open PySem PySem.Spec PyProof.Rows L2
theorem pl {f : Str} {v : V} {fs : List (Str × V)} {k : Nat} (h : fs.length ≤ k) : (putF f v fs).length ≤ k + 1 := Nat.le_trans (length_putF _ _ _) (Nat.succ_le_succ h)
theorem neg_of {H : Hp} {g x : Addr} {o u : HO} (hg : H g = some o) (hx : H x = some u) (h : o ≠ u) : x ≠ g := fun z => by
  rw [z, hg] at hx
  cases hx
  exact h rfl
theorem masks_get {n : Nat} {k m : Nat} (h : (masks n)[k]? = some m) : k < (masks n).length := (List.getElem?_eq_some_iff.mp h).1
section
variable {P : Program} {w : World} {K : PySem.W.Frag} {mg : Str → Option Value} {base : Heap}
theorem scGInit : FnScope ["self", "many", "ends", "uses", "heard", "places", "lot", "link", "at", "mask"] ["self", "many", "ends", "uses", "heard"] (defScope sCGrowingInit) := ⟨rfl, rfl, rfl, by decide +kernel, rfl, by decide +kernel, by decide +kernel⟩
def spGInit (K : PySem.W.Frag) : Sp := fun vs H Q _ => ∃ (g dx lt d0 h0 : Addr) (n root k : Nat) (es : List (Nat × Nat)) (us : List Nat) (as : List Addr), vs = [.ref g, vn n, .ref lt, .ref d0, .ref h0] ∧ H g = some (.ins (He.ga K "Growing") dx []) ∧ LinksO H lt es ∧ H d0 = some (.dK (enK 0 (vns us))) ∧ us.length = es.length ∧
  H h0 = some (.lst (as.map V.ref)) ∧ (∀ a ∈ as, H a = some (.tup [vn root])) ∧ as.length = k ∧ k ≤ 100 ∧ root < n ∧ 2 ≤ n ∧ n ≤ 10 ∧ Links n es ∧ es.length ≤ 60 ∧
  ∀ H' A, EBut g H H' → (∀ a ∈ A.mu, H a = none) → GS K H' g A n es us (List.replicate k (2 ^ root)) (List.replicate k []) → Q .non H'
theorem okGInit (T : Txt K mg) : FnK P w K mg base CX0 2 (He.ma K (He.ga K "Growing") "__init__") ["self", "many", "ends", "uses", "heard"] (spGInit K) := by
  refine FnK.of T.d_CGrowingInit scGInit (fun _ _ _ _ _ _ us hl => match us, hl with | [_, _, _, _, _], _ => rfl) (fun vs H Q E h => ?_) (fun cdv A outer s H vs Q E hr h => ?_)
  · obtain ⟨g, dx, lt, d0, h0, n, root, k, es, us, as, rfl, _⟩ := h
    rfl
  · obtain ⟨g, dx, lt, d0, h0, n, root, k, es, us, as, rfl, hg, hlt, hd0, hul, hh0, has, hk, hk100, hroot, n2, n10, hes, l60, kk⟩ := h
    refine ⟨_, pss_cons (ps_fld (pv 0) (pv 1) rfl)
      (pss_cons (ps_fld (pv 0) (pv 2) rfl)
      (pss_cons (ps_fld (pv 0) (ct call_dictD T.f_dict (a1 (pv 3))) rfl)
      (pss_cons (ps_fld (pv 0) (lcn 5 (pi_list (pv 4)) (fun _ _ _ _ _ => cl (okMaskOf T) hr T.g_mask_of (a1 (pv 5))) scGInit) rfl)
      (pss_cons (ps_fld (pv 0) (lcn 5 (pi_list (pv 4)) (fun _ _ _ _ _ => pe_lst pa_nil) scGInit) rfl)
      (pss_cons (ps_fld (pv 0) (cl (okAllLots T) hr T.g_all_lots (a1 (pv 1))) rfl)
      (pss_cons (ps_fld (pv 0) (lcn 6 (pi_list (pe_fld (pv 0) rfl)) (fun _ _ _ _ _ => cl (okMaskOf T) hr T.g_mask_of (a1 (pv 6))) scGInit) rfl)
      (pss_cons (ps_fld (pv 0) (pe_lock (dcn 7 (pi_keys (pe_fld (pv 0) rfl)) (fun _ _ _ _ _ => pv 7) (fun _ _ _ _ _ => clm (okLotsEntered T) hr T.c_Growing T.m_lots_entered (pv 0) (a1 (pv 7))) scGInit)) rfl)
      (pss_cons (ps_fld (pv 0) (lcn 6 (pi_list (pe_fld (pv 0) rfl)) (fun _ _ _ _ _ => pe_int) scGInit) rfl)
      (pss_cons (ps_lock (ps_for PassesOwn.never rfl (pi_keys (pe_fld (pv 0) rfl)) (pg_name (i := 7) scGInit.nd rfl (.inl rfl)) (pss_one (ps_for PassesOwn.never rfl (pi_list (pe_dget (Room.u1 hr) (pe_fld (pv 0) rfl) (pv 7) (fun _ _ => rfl))) (pg_name (i := 8) scGInit.nd rfl (.inl rfl))
        (pss_one (ps_augS (pe_fld (pv 0) rfl) (pv 8) get_list (pe_dget (Room.u1 hr) (pe_fld (pv 0) rfl) (pv 7) (fun _ _ => rfl)) ip_add set_list))))))
      (pss_one (ps_fld (pv 0) (lcn 9 (pi_list (pe_fld (pv 0) rfl)) (fun _ _ _ _ _ => clm (okPartsApart T) hr T.c_Growing T.m_parts_apart (pv 0) (a1 (pv 9))) scGInit) rfl))))))))))), ?_⟩
    have cg := T.c_Growing
    -- 1, 2
    refine ⟨_, rfl, _, rfl, g, _, dx, [], rfl, hg, cg, T.n_kept_many, by decide, ?_⟩
    refine ⟨_, rfl, _, rfl, g, _, dx, _, rfl, upd_same, cg, T.n_kept_ends, Nat.lt_of_le_of_lt (pl (Nat.le_refl 0)) (by decide), ?_⟩
    have e2 : EBut g H (upd (upd H g (.ins (He.ga K "Growing") dx (putF "kept_many" (vn n) []))) g (.ins (He.ga K "Growing") dx (putF "kept_ends" (.ref lt) (putF "kept_many" (vn n) [])))) := (ebut_upd).upd
    have hg2 : upd (upd H g (.ins (He.ga K "Growing") dx (putF "kept_many" (vn n) []))) g (.ins (He.ga K "Growing") dx (putF "kept_ends" (.ref lt) (putF "kept_many" (vn n) []))) g = some (.ins (He.ga K "Growing") dx (putF "kept_ends" (.ref lt) (putF "kept_many" (vn n) []))) := upd_same
    have L2' : (putF "kept_ends" (.ref lt) (putF "kept_many" (vn n) [])).length ≤ 2 := pl (pl (Nat.le_refl 0))
    revert e2 hg2
    generalize upd (upd H g (.ins (He.ga K "Growing") dx (putF "kept_many" (vn n) []))) g (.ins (He.ga K "Growing") dx (putF "kept_ends" (.ref lt) (putF "kept_many" (vn n) []))) = H2
    intro e2 hg2
    have hd0g : d0 ≠ g := neg_of hg hd0 (fun z => nomatch z)
    have hh0g : h0 ≠ g := neg_of hg hh0 (fun z => nomatch z)
    have hasg : ∀ a ∈ as, a ≠ g := fun a ha => neg_of hg (has a ha) (fun z => nomatch z)
    -- 3: uses
    refine ⟨_, rfl, d0, _, rfl, .inl (e2 _ _ hd0g hd0), fun du ndu => ?_⟩
    have s3 : Same H2 (upd H2 du (.dK (enK 0 (vns us)))) := same_new ndu
    refine ⟨_, rfl, g, _, dx, _, rfl, s3 _ _ hg2, cg, T.n_kept_uses, Nat.lt_of_le_of_lt L2' (by decide), ?_⟩
    have dug : du ≠ g := Ne.symm (ne_of_none hg2 ndu)
    have e3 : EBut g H2 (upd (upd H2 du (.dK (enK 0 (vns us)))) g (.ins (He.ga K "Growing") dx (putF "kept_uses" (.ref du) (putF "kept_ends" (.ref lt) (putF "kept_many" (vn n) []))))) := (EBut.of s3).upd
    have hg3 : upd (upd H2 du (.dK (enK 0 (vns us)))) g (.ins (He.ga K "Growing") dx (putF "kept_uses" (.ref du) (putF "kept_ends" (.ref lt) (putF "kept_many" (vn n) [])))) g = some (.ins (He.ga K "Growing") dx (putF "kept_uses" (.ref du) (putF "kept_ends" (.ref lt) (putF "kept_many" (vn n) [])))) := upd_same
    have du3 : upd (upd H2 du (.dK (enK 0 (vns us)))) g (.ins (He.ga K "Growing") dx (putF "kept_uses" (.ref du) (putF "kept_ends" (.ref lt) (putF "kept_many" (vn n) [])))) du = some (.dK (enK 0 (vns us))) := by rw [upd_ne dug, upd_same]
    have L3 : (putF "kept_uses" (.ref du) (putF "kept_ends" (.ref lt) (putF "kept_many" (vn n) []))).length ≤ 3 := pl L2'
    clear s3
    revert e3 hg3 du3
    generalize upd (upd H2 du (.dK (enK 0 (vns us)))) g (.ins (He.ga K "Growing") dx (putF "kept_uses" (.ref du) (putF "kept_ends" (.ref lt) (putF "kept_many" (vn n) [])))) = H3
    generalize hfs3 : putF "kept_uses" (.ref du) (putF "kept_ends" (.ref lt) (putF "kept_many" (vn n) [])) = fs3 at L3 ⊢
    intro e3 hg3 du3
    have e03 := e2.trans e3
    -- 4: heard
    refine ⟨_, rfl, h0, rfl, ⟨_, SqL.of (e03 _ _ hh0g hh0)⟩, fun lh nlh => ?_⟩
    refine comp_list (K := K) as V.ref (fun _ => true) (fun _ x y => y = vn (2 ^ root)) nlh (SqL.of (e03 _ _ hh0g hh0)) (by rw [sizeLine_eq]; omega) (fun _ _ _ _ _ h => h) (fun _ => rfl) (fun x _ H1 s1 Qb q => q H1 (Same.refl _)) (fun a ha _ H1 s1 _ Qv q => ?_) (fun Ha ys sa lha r => ?_)
    · refine ⟨_, rfl, a, [root], rfl, SqT.of (s1 _ _ (e03 _ _ (hasg a ha) (has a ha))), by simp, fun x hx => by rw [List.mem_singleton.mp hx]; omega, fun H2 s2 => ?_⟩
      have : maskOf [root] = 2 ^ root := by unfold maskOf; simp
      rw [this]
      exact q _ H2 s2 rfl
    rw [List.filter_eq_self.mpr (fun _ _ => rfl)] at r
    have ey := Paired.eq_map r
    subst ey
    have ehs : as.map (fun _ => vn (2 ^ root)) = vns (List.replicate k (2 ^ root)) := by
      unfold vns
      rw [List.map_replicate, ← hk, List.map_const']
    rw [ehs] at lha
    refine ⟨_, rfl, g, _, dx, fs3, rfl, sa _ _ hg3, cg, T.n_kept_heard, Nat.lt_of_le_of_lt L3 (by decide), ?_⟩
    have e4 : EBut g H3 (upd Ha g (.ins (He.ga K "Growing") dx (putF "kept_heard" (.ref lh) fs3))) := (EBut.of sa).upd
    have hg4 : upd Ha g (.ins (He.ga K "Growing") dx (putF "kept_heard" (.ref lh) fs3)) g = _ := upd_same
    have lhg : lh ≠ g := Ne.symm (ne_of_none hg3 nlh)
    have lh4 : upd Ha g (.ins (He.ga K "Growing") dx (putF "kept_heard" (.ref lh) fs3)) lh = _ := (upd_ne lhg).trans lha
    have L4 : (putF "kept_heard" (.ref lh) fs3).length ≤ 4 := pl L3
    clear sa lha r
    revert e4 hg4 lh4
    generalize upd Ha g (.ins (He.ga K "Growing") dx (putF "kept_heard" (.ref lh) fs3)) = H4
    generalize hfs4 : putF "kept_heard" (.ref lh) fs3 = fs4 at L4 ⊢
    intro e4 hg4 lh4
    clear Ha
    have e04 := e03.trans e4
    have du4 := e4 _ _ dug du3
    -- 5: parts
    refine ⟨_, rfl, h0, rfl, ⟨_, SqL.of (e04 _ _ hh0g hh0)⟩, fun lp nlp => ?_⟩
    refine comp_news (K := K) (as.map V.ref) nlp (SqL.of (e04 _ _ hh0g hh0)) (by rw [List.length_map, sizeLine_eq]; omega) (fun _ => rfl) (fun Ha pas sa lpa lpas pnd pasa => ?_)
    rw [List.length_map] at lpas
    refine ⟨_, rfl, g, _, dx, fs4, rfl, sa _ _ hg4, cg, T.n_kept_parts, Nat.lt_of_le_of_lt L4 (by decide), ?_⟩
    have e5 : EBut g H4 (upd Ha g (.ins (He.ga K "Growing") dx (putF "kept_parts" (.ref lp) fs4))) := (EBut.of sa).upd
    have hg5 : upd Ha g (.ins (He.ga K "Growing") dx (putF "kept_parts" (.ref lp) fs4)) g = _ := upd_same
    have lpg : lp ≠ g := Ne.symm (ne_of_none hg4 nlp)
    have lp5 : upd Ha g (.ins (He.ga K "Growing") dx (putF "kept_parts" (.ref lp) fs4)) lp = _ := (upd_ne lpg).trans lpa
    have npas : ∀ b ∈ pas, H4 b = none := fun b hb => (pasa b hb).2.1
    have pasg : ∀ b ∈ pas, b ≠ g := fun b hb => Ne.symm (ne_of_none hg4 (npas b hb))
    have paslp : ∀ b ∈ pas, b ≠ lp := fun b hb => (pasa b hb).2.2
    have pas5 : ∀ b ∈ pas, upd Ha g (.ins (He.ga K "Growing") dx (putF "kept_parts" (.ref lp) fs4)) b = some (.lst []) := fun b hb => (upd_ne (pasg b hb)).trans (pasa b hb).1
    have L5 : (putF "kept_parts" (.ref lp) fs4).length ≤ 5 := pl L4
    clear sa lpa pasa
    revert e5 hg5 lp5 pas5
    generalize upd Ha g (.ins (He.ga K "Growing") dx (putF "kept_parts" (.ref lp) fs4)) = H5
    generalize hfs5 : putF "kept_parts" (.ref lp) fs4 = fs5 at L5 ⊢
    intro e5 hg5 lp5 pas5
    clear Ha
    have du5 := e5 _ _ dug du4
    have lh5 := e5 _ _ lhg lh4
    -- 6: lots
    refine ⟨_, rfl, n, rfl, n2, n10, fun Ha ll las sa nll lla lasa => ?_⟩
    refine ⟨_, rfl, g, _, dx, fs5, rfl, sa _ _ hg5, cg, T.n_kept_lots, Nat.lt_of_le_of_lt L5 (by decide), ?_⟩
    have e6 : EBut g H5 (upd Ha g (.ins (He.ga K "Growing") dx (putF "kept_lots" (.ref ll) fs5))) := (EBut.of sa).upd
    have hg6 : upd Ha g (.ins (He.ga K "Growing") dx (putF "kept_lots" (.ref ll) fs5)) g = _ := upd_same
    have llg : ll ≠ g := Ne.symm (ne_of_none hg5 nll)
    have ll6 : upd Ha g (.ins (He.ga K "Growing") dx (putF "kept_lots" (.ref ll) fs5)) ll = _ := (upd_ne llg).trans lla
    have hga := sa _ _ hg5
    have las6 : LotsO (upd Ha g (.ins (He.ga K "Growing") dx (putF "kept_lots" (.ref ll) fs5))) las (lots n) := Paired.imp (F := fun (l : List Nat) (b : Addr) => Ha b = some (.tup (vns l))) (fun l b q => (upd_ne (neg_of hga q (fun z => nomatch z))).trans q) lasa
    have L6 : (putF "kept_lots" (.ref ll) fs5).length ≤ 6 := pl L5
    clear sa lla lasa hga
    revert e6 hg6 ll6 las6
    generalize upd Ha g (.ins (He.ga K "Growing") dx (putF "kept_lots" (.ref ll) fs5)) = H6
    generalize hfs6 : putF "kept_lots" (.ref ll) fs5 = fs6 at L6 ⊢
    intro e6 hg6 ll6 las6
    clear Ha
    have du6 := e6 _ _ dug du5
    have lh6 := e6 _ _ lhg lh5
    have lp6 := e6 _ _ lpg lp5
    have pas6 : ∀ b ∈ pas, H6 b = some (.lst []) := fun b hb => e6 _ _ (pasg b hb) (pas5 b hb)
    -- 7: masks
    have lk6 : fs6.lookup ("kept_lots" : Str) = some (.ref ll) := by rw [← hfs6]; exact lk1
    refine ⟨_, rfl, g, _, dx, fs6, _, rfl, hg6, cg, T.n_kept_lots, lk6, ll, rfl, ⟨_, SqL.of ll6⟩, fun lm nlm => ?_⟩
    obtain ⟨ps, ps1, ps2, ps3⟩ := Paired.zipd las6
    have ll6' : SqL K H6 ll (ps.map fun q => V.ref q.2) := by
      have := SqL.of (K := K) ll6
      rw [ps2, List.map_map] at this
      exact this
    have lpsz : ps.length ≤ 3000 := by
      have := lots_len n2 n10
      rw [ps1, List.length_map] at this
      exact this
    refine comp_list (K := K) ps (fun q => V.ref q.2) (fun _ => true) (fun _ q y => y = vn (maskOf q.1)) nlm ll6' (by rw [sizeLine_eq]; omega) (fun _ _ _ _ _ h => h) (fun _ => rfl) (fun x _ H1 s1 Qb q => q H1 (Same.refl _)) (fun q hm _ H1 s1 _ Qv qq => ?_) (fun Ha ys sa lma r => ?_)
    · have hl : q.1 ∈ lots n := by rw [ps1]; exact List.mem_map_of_mem hm
      refine ⟨_, rfl, q.2, q.1, rfl, SqT.of (s1 _ _ (ps3 q hm)), by have := lots_size n2 n10 hl; omega, fun x hx => ?_, fun H2 s2 => qq _ H2 s2 rfl⟩
      have := lots_lt n2 n10 hl x hx
      omega
    rw [List.filter_eq_self.mpr (fun _ _ => rfl)] at r
    have ey := Paired.eq_map r
    subst ey
    have ems : ps.map (fun q => vn (maskOf q.1)) = vns (masks n) := by
      unfold vns masks
      rw [ps1, List.map_map, List.map_map]
      rfl
    rw [ems] at lma
    refine ⟨_, rfl, g, _, dx, fs6, rfl, sa _ _ hg6, cg, T.n_kept_masks, Nat.lt_of_le_of_lt L6 (by decide), ?_⟩
    have e7 : EBut g H6 (upd Ha g (.ins (He.ga K "Growing") dx (putF "kept_masks" (.ref lm) fs6))) := (EBut.of sa).upd
    have hg7 : upd Ha g (.ins (He.ga K "Growing") dx (putF "kept_masks" (.ref lm) fs6)) g = _ := upd_same
    have lmg : lm ≠ g := Ne.symm (ne_of_none hg6 nlm)
    have lm7 : upd Ha g (.ins (He.ga K "Growing") dx (putF "kept_masks" (.ref lm) fs6)) lm = _ := (upd_ne lmg).trans lma
    have L7 : (putF "kept_masks" (.ref lm) fs6).length ≤ 7 := pl L6
    clear sa lma r ll6' ps3
    revert e7 hg7 lm7
    generalize upd Ha g (.ins (He.ga K "Growing") dx (putF "kept_masks" (.ref lm) fs6)) = H7
    generalize hfs7 : putF "kept_masks" (.ref lm) fs6 = fs7 at L7 ⊢
    intro e7 hg7 lm7
    clear Ha
    have e07 := e04.trans (e5.trans (e6.trans e7))
    have du7 := e7 _ _ dug du6
    have lh7 := e7 _ _ lhg lh6
    have lp7 := e7 _ _ lpg lp6
    have ll7 := e7 _ _ llg ll6
    have las7 : LotsO H7 las (lots n) := Paired.imp (F := fun (l : List Nat) (b : Addr) => H6 b = some (.tup (vns l))) (fun l b q => e7 _ _ (neg_of hg6 q (fun z => nomatch z)) q) las6
    have pas7 : ∀ b ∈ pas, H7 b = some (.lst []) := fun b hb => e7 _ _ (pasg b hb) (pas6 b hb)
    have lt7 : LinksO H7 lt es := hlt.mono fun a xs q => e07 _ _ (neg_of hg q (fun z => nomatch z)) q
    -- 8: into
    have lku7 : fs7.lookup ("kept_uses" : Str) = some (.ref du) := by
      rw [← hfs7, lk2 (by decide), ← hfs6, lk2 (by decide), ← hfs5, lk2 (by decide), ← hfs4, lk2 (by decide), ← hfs3]
      exact lk1
    have lke7 : fs7.lookup ("kept_ends" : Str) = some (.ref lt) := by
      rw [← hfs7, lk2 (by decide), ← hfs6, lk2 (by decide), ← hfs5, lk2 (by decide), ← hfs4, lk2 (by decide), ← hfs3, lk2 (by decide)]
      exact lk1
    have lkm7 : fs7.lookup ("kept_masks" : Str) = some (.ref lm) := by rw [← hfs7]; exact lk1
    have lkn7 : fs7.lookup ("lots_entered" : Str) = none := by
      rw [← hfs7, lk2 (by decide), ← hfs6, lk2 (by decide), ← hfs5, lk2 (by decide), ← hfs4, lk2 (by decide), ← hfs3, lk2 (by decide), lk2 (by decide), lk2 (by decide)]
      rfl
    have hml := masks_len n2 n10
    refine ⟨du, _, du7, trivial, fun od => ?_⟩
    have hgz : upd H7 du (.frz od (.dK (enK 0 (vns us)))) g = some (.ins (He.ga K "Growing") dx fs7) := by rw [upd_ne (Ne.symm dug)]; exact hg7
    have duz : upd H7 du (.frz od (.dK (enK 0 (vns us)))) du = some (.frz od (.dK (enK 0 (vns us)))) := upd_same
    have oz : ∀ b o, b ≠ du → H7 b = some o → upd H7 du (.frz od (.dK (enK 0 (vns us)))) b = some o := fun b o hb q => by rw [upd_ne hb]; exact q
    have zz : ∀ b, upd H7 du (.frz od (.dK (enK 0 (vns us)))) b = none → H7 b = none := fun b q => by
      by_cases hb : b = du
      · rw [hb, duz] at q; cases q
      · rw [upd_ne hb] at q; exact q
    revert hgz duz oz zz
    generalize upd H7 du (.frz od (.dK (enK 0 (vns us)))) = Hz
    intro hgz duz oz zz
    have ltz : LinksO Hz lt es := lt7.mono fun a xs q => oz _ _ (neg_of du7 q (fun z => nomatch z)) q
    have lmz := oz _ _ (neg_of du7 lm7 (fun z => nomatch z)) lm7
    refine ⟨_, rfl, g, _, dx, fs7, _, rfl, hgz, cg, T.n_kept_uses, lku7, du, od, rfl, .inl ⟨_, duz, fun di ndi => ?_⟩⟩
    have dulen : (enK 0 (vns us)).length = es.length := by rw [enK_len, vns_len]; exact hul
    refine dc_it walk_keys (fun i H' => Same Hz H' ∧ ∃ ias : List Addr, H' di = some (.dK (enK 0 (ias.map V.ref))) ∧ ias.length = i ∧ Paired (fun (a : Addr) (e : Nat × Nat) => H' a = some (.lst (vns (intoOf (masks n) e)))) ias (es.take i) ∧ ∀ a ∈ ias, Hz a = none)
      ⟨same_new ndi, [], upd_same, rfl, .nil, fun _ h => nomatch h⟩ (fun i H' _ h => h.1 _ _ duz) (fun i x H' H'' hi hp hy => ?_) (fun H' hp => ?_)
    · obtain ⟨rfl, kx, vx, hkv, rfl⟩ := hy
      obtain ⟨s1, ias, d1, d2, d3, d4⟩ := hp
      obtain ⟨ek, _⟩ := enK_get 0 _ i _ hkv
      rw [Nat.zero_add] at ek
      have ek : kx = numK i := ek
      subst ek
      rw [dulen] at hi
      have he : es[i]? = some es[i] := List.getElem?_eq_getElem hi
      refine ⟨rfl, ?_⟩
      unfold tYes
      dsimp only
      rw [if_pos rfl]
      refine ⟨_, rfl, ?_⟩
      refine ⟨_, rfl, g, dx, fs7, rfl, s1 _ _ hgz, lkn7, _, rfl, g, dx, lt, lm, fs7, i, es, es[i], masks n, rfl, s1 _ _ hgz, lke7, lkm7, ltz.same s1, he, s1 _ _ lmz, by omega, fun H3 b s3 nb hb => ?_⟩
      have s13 := s1.trans s3
      have dib : di ≠ b := ne_of_none d1 nb
      refine ⟨_, numK i, rfl, s3 _ _ d1, by rw [enK_len, List.length_map, d2, sizeLine_eq]; omega, same_mut s13 ndi, ias ++ [b], ?_, by rw [List.length_append, d2]; rfl, ?_, fun a ha => ?_⟩
      · rw [upd_same, enK_push (by rw [List.length_map, d2]), List.map_append]
        rfl
      · rw [take_snoc he]
        refine Paired.snoc (Paired.imp (F := fun (a : Addr) (e : Nat × Nat) => H'' a = some (.lst (vns (intoOf (masks n) e)))) (fun a e q => ?_) d3) ?_
        · rw [upd_ne (neg_of d1 q (fun z => nomatch z))]; exact s3 _ _ q
        · rw [upd_ne (Ne.symm dib)]; exact hb
      · rcases List.mem_append.mp ha with ha | ha
        · exact d4 a ha
        · rw [List.mem_singleton.mp ha]
          cases e : Hz b with
          | none => rfl
          | some o => rw [s1 _ _ e] at nb; cases nb
    · obtain ⟨s1, ias, d1, d2, d3, d4⟩ := hp
      rw [dulen] at d2 d3
      rw [List.take_length] at d3
      refine ⟨s1 _ _ duz, ?_⟩
      -- unlocked
      have s8 : Same H7 (upd H' du (.dK (enK 0 (vns us)))) := fun b o q => by
        by_cases hb : b = du
        · rw [hb, upd_same, ← du7, ← hb]; exact q
        · rw [upd_ne hb]; exact s1 _ _ (oz _ _ hb q)
      have ndi7 := zz _ ndi
      have didu : di ≠ du := Ne.symm (ne_of_none du7 ndi7)
      have di8 : upd H' du (.dK (enK 0 (vns us))) di = some (.dK (enK 0 (ias.map V.ref))) := by rw [upd_ne didu]; exact d1
      have nias : ∀ a ∈ ias, H7 a = none := fun a ha => zz _ (d4 a ha)
      have ias8 : Paired (fun (a : Addr) (e : Nat × Nat) => upd H' du (.dK (enK 0 (vns us))) a = some (.lst (vns (intoOf (masks n) e)))) ias es := Paired.imp (F := fun (a : Addr) (e : Nat × Nat) => H' a = some (.lst (vns (intoOf (masks n) e)))) (fun a e q => (upd_ne (neg_of (s1 _ _ duz) q (fun z => nomatch z))).trans q) d3
      clear d1 d3 d4 ndi ltz lmz hgz oz
      revert s8 di8 ias8
      generalize upd H' du (.dK (enK 0 (vns us))) = Ha
      intro s8 dia iasa
      clear s1 H'
      refine ⟨_, rfl, g, _, dx, fs7, rfl, s8 _ _ hg7, cg, T.n_kept_into, Nat.lt_of_le_of_lt L7 (by decide), ?_⟩
      have dig : di ≠ g := Ne.symm (ne_of_none hg7 ndi7)
      have iasg : ∀ a ∈ ias, a ≠ g := fun a ha => Ne.symm (ne_of_none hg7 (nias a ha))
      have e8 : EBut g H7 (upd Ha g (.ins (He.ga K "Growing") dx (putF "kept_into" (.ref di) fs7))) := (EBut.of s8).upd
      have hg8 : upd Ha g (.ins (He.ga K "Growing") dx (putF "kept_into" (.ref di) fs7)) g = _ := upd_same
      have di8 : upd Ha g (.ins (He.ga K "Growing") dx (putF "kept_into" (.ref di) fs7)) di = _ := (upd_ne dig).trans dia
      have ias8 : Paired (fun (a : Addr) (e : Nat × Nat) => upd Ha g (.ins (He.ga K "Growing") dx (putF "kept_into" (.ref di) fs7)) a = some (.lst (vns (intoOf (masks n) e)))) ias es := Paired.impL (F := fun (a : Addr) (e : Nat × Nat) => Ha a = some (.lst (vns (intoOf (masks n) e)))) (fun a e ha q => (upd_ne (iasg a ha)).trans q) iasa
      have L8 : (putF "kept_into" (.ref di) fs7).length ≤ 8 := pl L7
      clear s8 dia iasa
      revert e8 hg8 di8 ias8
      generalize upd Ha g (.ins (He.ga K "Growing") dx (putF "kept_into" (.ref di) fs7)) = H8
      generalize hfs8 : putF "kept_into" (.ref di) fs7 = fs8 at L8 ⊢
      intro e8 hg8 di8 ias8
      clear Ha
      have du8 := e8 _ _ dug du7
      have lh8 := e8 _ _ lhg lh7
      have lp8 := e8 _ _ lpg lp7
      have ll8 := e8 _ _ llg ll7
      have lm8 := e8 _ _ lmg lm7
      have pas8 : ∀ b ∈ pas, H8 b = some (.lst []) := fun b hb => e8 _ _ (pasg b hb) (pas7 b hb)
      -- 9: entered
      have lkl8 : fs8.lookup ("kept_lots" : Str) = some (.ref ll) := by rw [← hfs8, lk2 (by decide), ← hfs7, lk2 (by decide)]; exact lk6
      refine ⟨_, rfl, g, _, dx, fs8, _, rfl, hg8, cg, T.n_kept_lots, lkl8, ll, rfl, ⟨_, SqL.of ll8⟩, fun le nle => ?_⟩
      have lasl : las.length = (lots n).length := (Paired.len las7).symm
      have lotsl : (lots n).length = (masks n).length := by unfold masks; rw [List.length_map]
      refine comp_list (K := K) las V.ref (fun _ => true) (fun _ x y => y = .int 0) nle (SqL.of ll8) (by rw [lasl, lotsl, sizeLine_eq]; omega) (fun _ _ _ _ _ h => h) (fun _ => rfl) (fun x _ H1 s1 Qb q => q H1 (Same.refl _)) (fun a ha _ H1 s1 _ Qv q => q _ H1 (Same.refl _) rfl) (fun Ha ys sa lea r => ?_)
      rw [List.filter_eq_self.mpr (fun _ _ => rfl)] at r
      have ey := Paired.eq_map r
      subst ey
      have ezs : las.map (fun _ => V.int 0) = ((masks n).map (ent (es.take 0) (us.take 0))).map V.int := by
        rw [List.take_zero, List.take_zero, List.map_map]
        have : (V.int ∘ ent [] []) = fun _ => V.int 0 := rfl
        rw [this, List.map_const', List.map_const', lasl, lotsl]
      rw [ezs] at lea
      refine ⟨_, rfl, g, _, dx, fs8, rfl, sa _ _ hg8, cg, T.n_kept_entered, Nat.lt_of_le_of_lt L8 (by decide), ?_⟩
      have leg : le ≠ g := Ne.symm (ne_of_none hg8 nle)
      have e9 : EBut g H8 (upd Ha g (.ins (He.ga K "Growing") dx (putF "kept_entered" (.ref le) fs8))) := (EBut.of sa).upd
      have hg9 : upd Ha g (.ins (He.ga K "Growing") dx (putF "kept_entered" (.ref le) fs8)) g = _ := upd_same
      have le9 : upd Ha g (.ins (He.ga K "Growing") dx (putF "kept_entered" (.ref le) fs8)) le = _ := (upd_ne leg).trans lea
      have L9 : (putF "kept_entered" (.ref le) fs8).length ≤ 9 := pl L8
      clear sa lea r
      revert e9 hg9 le9
      generalize upd Ha g (.ins (He.ga K "Growing") dx (putF "kept_entered" (.ref le) fs8)) = H9
      generalize hfs9 : putF "kept_entered" (.ref le) fs8 = fs9 at L9 ⊢
      intro e9 hg9 le9
      clear Ha
      have du9 := e9 _ _ dug du8
      have di9 := e9 _ _ dig di8
      have ias9 : Paired (fun (a : Addr) (e : Nat × Nat) => H9 a = some (.lst (vns (intoOf (masks n) e)))) ias es := Paired.impL (F := fun (a : Addr) (e : Nat × Nat) => H8 a = some (.lst (vns (intoOf (masks n) e)))) (fun a e ha q => e9 _ _ (iasg a ha) q) ias8
      have iasle : ∀ a ∈ ias, a ≠ le := fun a ha => by
        obtain ⟨j, hj⟩ := List.getElem?_of_mem ha
        obtain ⟨e, _, q⟩ := Paired.get ias8 hj
        exact ne_of_none q nle
      have lkx9 : ∀ f : Str, f ≠ "kept_entered" → f ≠ "kept_into" → fs9.lookup f = fs7.lookup f := fun f h1 h2 => by rw [← hfs9, lk2 h1, ← hfs8, lk2 h2]
      have lku9 : fs9.lookup ("kept_uses" : Str) = some (.ref du) := (lkx9 _ (by decide) (by decide)).trans lku7
      have lki9 : fs9.lookup ("kept_into" : Str) = some (.ref di) := by rw [← hfs9, lk2 (by decide), ← hfs8]; exact lk1
      have lke9 : fs9.lookup ("kept_entered" : Str) = some (.ref le) := by rw [← hfs9]; exact lk1
      -- 10: the uses' sums
      refine ⟨du, _, du9, trivial, fun od2 => ?_⟩
      have hgz : upd H9 du (.frz od2 (.dK (enK 0 (vns us)))) g = some (.ins (He.ga K "Growing") dx fs9) := by rw [upd_ne (Ne.symm dug)]; exact hg9
      have duz : upd H9 du (.frz od2 (.dK (enK 0 (vns us)))) du = some (.frz od2 (.dK (enK 0 (vns us)))) := upd_same
      have oz : ∀ b o, b ≠ du → H9 b = some o → upd H9 du (.frz od2 (.dK (enK 0 (vns us)))) b = some o := fun b o hb q => by rw [upd_ne hb]; exact q
      revert hgz duz oz
      generalize upd H9 du (.frz od2 (.dK (enK 0 (vns us)))) = Hy
      intro hgz duz oz
      have ledu : le ≠ du := neg_of du9 le9 (fun z => nomatch z)
      have lez := oz _ _ ledu le9
      have diz := oz _ _ didu di9
      have iasz : Paired (fun (a : Addr) (e : Nat × Nat) => Hy a = some (.lst (vns (intoOf (masks n) e)))) ias es := Paired.imp (F := fun (a : Addr) (e : Nat × Nat) => H9 a = some (.lst (vns (intoOf (masks n) e)))) (fun a e q => oz _ _ (neg_of du9 q (fun z => nomatch z)) q) ias9
      have dile : di ≠ le := neg_of lez diz (fun z => nomatch z)
      refine ⟨_, rfl, g, _, dx, fs9, _, rfl, hgz, cg, T.n_kept_uses, lku9, du, od2, rfl, .inl ⟨_, duz, ?_⟩⟩
      refine for_it walk_keys (fun i σ H' => EBut le Hy H' ∧ H' le = some (.lst (((masks n).map (ent (es.take i) (us.take i))).map V.int)) ∧ ∃ v v2 : Option V, σ = [some (.ref g), some (vn n), some (.ref lt), some (.ref d0), some (.ref h0), none, none, v, v2, none])
        ⟨fun _ _ _ q => q, lez, none, none, rfl⟩ (fun i σ H' _ h => h.1 _ _ (Ne.symm ledu) duz) (fun i x σ H' H'' hi hp hy => ?_) (fun σ H' hp => ?_)
      · obtain ⟨rfl, kx, vx, hkv, rfl⟩ := hy
        obtain ⟨eb1, le1, v1, v2, rfl⟩ := hp
        obtain ⟨ek, _⟩ := enK_get 0 _ i _ hkv
        rw [Nat.zero_add] at ek
        have ek : kx = numK i := ek
        subst ek
        rw [dulen] at hi
        have he : es[i]? = some es[i] := List.getElem?_eq_getElem hi
        have hu : us[i]? = some us[i] := List.getElem?_eq_getElem (by omega)
        obtain ⟨ia, hia, hib⟩ := Paired.get' iasz he
        have hib1 := eb1 _ _ (iasle ia (List.mem_of_getElem? hia)) hib
        have gle : g ≠ le := Ne.symm leg
        have gi : ∀ H', EBut le Hy H' → DGet H' di (vn i) (some (.ref ia)) := fun H' eb => by
          have q : DGet H' di (kV (numK i)) (valV (enK 0 (ias.map V.ref)) (numK i)) := DGet.k (eb _ _ dile diz)
          rw [enK_val0, List.getElem?_map, hia] at q
          exact q
        have gu : ∀ H', EBut le Hy H' → DGet H' du (vn i) (some (vn us[i])) := fun H' eb => by
          have q : DGet H' du (kV (numK i)) (valV (enK 0 (vns us)) (numK i)) := .inl ⟨_, _, .inr ⟨_, eb _ _ (Ne.symm ledu) duz⟩, rfl, rfl⟩
          rw [enK_val0, vns_at hu] at q
          exact q
        refine ⟨_, rfl, g, _, dx, fs9, _, rfl, eb1 _ _ gle hgz, cg, T.n_kept_into, lki9, _, rfl, _, _, rfl, gi _ eb1, ?_⟩
        refine ⟨ia, rfl, ⟨_, SqL.of hib1⟩, for_list (K := K) (a := ia) (xs := vns (intoOf (masks n) es[i])) (fun j σ H' => EBut le Hy H' ∧ H' le = some (.lst ((addIf (us[i] : Nat) (fun k => decide (k ∈ (intoOf (masks n) es[i]).take j)) ((masks n).map (ent (es.take i) (us.take i)))).map V.int)) ∧ ∃ v2 : Option V, σ = [some (.ref g), some (vn n), some (.ref lt), some (.ref d0), some (.ref h0), none, none, some (vn i), v2, none])
          ⟨eb1, ?_, v2, rfl⟩ (fun j σ H' _ h => SqL.of (h.1 _ _ (iasle ia (List.mem_of_getElem? hia)) hib)) ?_ ?_⟩
        · rw [addIf_none]
          · exact le1
          · intro k _
            simp
        · rintro j x σ H3 hj ⟨eb3, le3, v, rfl⟩
          obtain ⟨m, hm, rfl⟩ := vns_get hj
          have hmem := List.mem_of_getElem? hm
          have hml2 : m < (masks n).length := List.mem_range.mp (List.mem_filter.mp hmem).1
          have hnd : (intoOf (masks n) es[i]).Nodup := List.nodup_range.filter _
          have nin : decide (m ∈ (intoOf (masks n) es[i]).take j) = false := by
            rw [decide_eq_false_iff_not]
            intro z
            obtain ⟨j2, hj2⟩ := List.getElem?_of_mem z
            rw [List.getElem?_take] at hj2
            split at hj2
            · rename_i hlt
              obtain ⟨q1, q2⟩ := List.getElem?_eq_some_iff.mp hj2
              have := (List.getElem?_inj q1 hnd).mp (hj2.trans hm.symm)
              omega
            · cases hj2
          have ee : ((masks n).map (ent (es.take i) (us.take i)))[m]? = some (((masks n).map (ent (es.take i) (us.take i))).getD m 0) := by
            rw [List.getD_eq_getElem?_getD, List.getElem?_eq_getElem (by rw [List.length_map]; exact hml2)]
            rfl
          have eg := addIf_at (d := (us[i] : Nat)) (c := fun k => decide (k ∈ (intoOf (masks n) es[i]).take j)) ee nin
          refine ⟨_, rfl, g, _, dx, fs9, _, rfl, eb3 _ _ gle hgz, cg, T.n_kept_entered, lke9, _, rfl, le, _, m, _, rfl, rfl, SqL.of le3, by rw [List.getElem?_map, eg]; rfl, ?_⟩
          refine ⟨_, rfl, g, _, dx, fs9, _, rfl, eb3 _ _ gle hgz, cg, T.n_kept_uses, lku9, _, rfl, _, _, rfl, gu _ eb3, _, _, rfl, rfl, le, _, _, m, rfl, rfl, le3, ?_, ?_⟩
          · rw [List.length_map, addIf_len, List.length_map]
            exact ixNn hml2
          · rw [ints_set]
            refine ⟨eb3.upd, ?_, _, rfl⟩
            rw [upd_same]
            rw [addIf_set (c := fun k => decide (k ∈ (intoOf (masks n) es[i]).take j)) (c' := fun k => decide (k ∈ (intoOf (masks n) es[i]).take (j + 1))) ee nin]
            · rw [take_snoc hm]; simp
            · intro k hk
              rw [take_snoc hm]
              simp [hk]
        · rintro σ H3 ⟨eb3, le3, v, rfl⟩
          refine ⟨eb3, ?_, _, _, rfl⟩
          rw [vns_len, List.take_length, addIf_ent (e := es[i]) (by rw [List.length_take, List.length_take, hul]) (fun k m hk => by
            unfold intoOf
            rw [Bool.eq_iff_iff, decide_eq_true_eq, List.mem_filter, List.mem_range, getD_of hk]
            exact ⟨fun z => z.2, fun z => ⟨masks_get hk, z⟩⟩)] at le3
          rw [take_snoc he, take_snoc hu]
          exact le3
      · obtain ⟨eb1, le1, v1, v2, rfl⟩ := hp
        rw [dulen, List.take_length, ← hul, List.take_length] at le1
        refine ⟨eb1 _ _ (Ne.symm ledu) duz, ?_⟩
        -- unlocked
        have e10 : EBut le H9 (upd H' du (.dK (enK 0 (vns us)))) := fun b o hb q => by
          by_cases hd : b = du
          · rw [hd, upd_same, ← du9, ← hd]; exact q
          · rw [upd_ne hd]; exact eb1 _ _ hb (oz _ _ hd q)
        have le10 : upd H' du (.dK (enK 0 (vns us))) le = some (.lst (((masks n).map (ent es us)).map V.int)) := by rw [upd_ne ledu]; exact le1
        clear eb1 le1 duz hgz oz iasz diz lez
        revert e10 le10
        generalize upd H' du (.dK (enK 0 (vns us))) = H10
        intro e10 le10
        clear H'
        have hg10 := e10 _ _ (Ne.symm leg) hg9
        have lhle := ne_of_none lh8 nle
        have lple := ne_of_none lp8 nle
        have llle := ne_of_none ll8 nle
        have lmle := ne_of_none lm8 nle
        have pasle : ∀ b ∈ pas, b ≠ le := fun b hb => ne_of_none (pas8 b hb) nle
        have mv : ∀ x o, x ≠ g → x ≠ le → H7 x = some o → H10 x = some o := fun x o hx1 hx2 q => e10 _ _ hx2 (e9 _ _ hx1 (e8 _ _ hx1 q))
        have du10 := mv _ _ dug (Ne.symm ledu) du7
        have lh10 := mv _ _ lhg lhle lh7
        have lp10 := mv _ _ lpg lple lp7
        have ll10 := mv _ _ llg llle ll7
        have lm10 := mv _ _ lmg lmle lm7
        have pas10 : ∀ b ∈ pas, H10 b = some (.lst []) := fun b hb => mv _ _ (pasg b hb) (pasle b hb) (pas7 b hb)
        have di10 := e10 _ _ dile di9
        have ias10 : Paired (fun (a : Addr) (e : Nat × Nat) => H10 a = some (.lst (vns (intoOf (masks n) e)))) ias es := Paired.impL (F := fun (a : Addr) (e : Nat × Nat) => H9 a = some (.lst (vns (intoOf (masks n) e)))) (fun a e ha q => e10 _ _ (iasle a ha) q) ias9
        -- 11: needed
        have lkm9 : fs9.lookup ("kept_masks" : Str) = some (.ref lm) := (lkx9 _ (by decide) (by decide)).trans lkm7
        have lkh9 : fs9.lookup ("kept_heard" : Str) = some (.ref lh) := by
          rw [lkx9 _ (by decide) (by decide), ← hfs7, lk2 (by decide), ← hfs6, lk2 (by decide), ← hfs5, lk2 (by decide), ← hfs4]
          exact lk1
        have lkp9 : fs9.lookup ("parts_apart" : Str) = none := by
          rw [lkx9 _ (by decide) (by decide), ← hfs7, lk2 (by decide), ← hfs6, lk2 (by decide), ← hfs5, lk2 (by decide), ← hfs4, lk2 (by decide), ← hfs3, lk2 (by decide), lk2 (by decide), lk2 (by decide)]
          rfl
        refine ⟨_, rfl, g, _, dx, fs9, _, rfl, hg10, cg, T.n_kept_masks, lkm9, lm, rfl, ⟨_, SqL.of lm10⟩, fun ln nln => ?_⟩
        refine comp_list (K := K) (masks n) vn (fun _ => true) (fun _ m y => y = .int (need (List.replicate k (2 ^ root)) m)) nln (SqL.of lm10) (by rw [sizeLine_eq]; omega) (fun _ _ _ _ _ h => h) (fun _ => rfl) (fun x _ H1 s1 Qb q => q H1 (Same.refl _)) (fun m hm _ H1 s1 _ Qv q => ?_) (fun Ha ys sa lna r => ?_)
        · exact ⟨_, rfl, g, dx, fs9, rfl, s1 _ _ hg10, lkp9, _, rfl, g, dx, lh, fs9, m, List.replicate k (2 ^ root), rfl, s1 _ _ hg10, lkh9, s1 _ _ lh10, by rw [List.length_replicate]; omega, fun H2 s2 => q _ H2 s2 rfl⟩
        rw [List.filter_eq_self.mpr (fun _ _ => rfl)] at r
        have ey := Paired.eq_map r
        subst ey
        refine ⟨_, rfl, g, _, dx, fs9, rfl, sa _ _ hg10, cg, T.n_kept_needed, Nat.lt_of_le_of_lt L9 (by decide), ?_⟩
        have lng : ln ≠ g := Ne.symm (ne_of_none hg10 nln)
        have e11 : EBut g H10 (upd Ha g (.ins (He.ga K "Growing") dx (putF "kept_needed" (.ref ln) fs9))) := (EBut.of sa).upd
        have hg11 : upd Ha g (.ins (He.ga K "Growing") dx (putF "kept_needed" (.ref ln) fs9)) g = _ := upd_same
        have ln11 : upd Ha g (.ins (He.ga K "Growing") dx (putF "kept_needed" (.ref ln) fs9)) ln = _ := (upd_ne lng).trans lna
        clear sa lna r
        revert e11 hg11 ln11
        generalize upd Ha g (.ins (He.ga K "Growing") dx (putF "kept_needed" (.ref ln) fs9)) = H11
        generalize hfs10 : putF "kept_needed" (.ref ln) fs9 = fs10
        intro e11 hg11 ln11
        clear Ha
        -- the end
        have old : ∀ b o, b ≠ g → H b = some o → H11 b = some o := fun b o hb q => by
          have q7 := e07 _ _ hb q
          have q8 := e8 _ _ hb q7
          exact e11 _ _ hb (e10 _ _ (ne_of_none q8 nle) (e9 _ _ hb q8))
        have nb : ∀ {Hm : Hp} {x : Addr}, (∀ b o, b ≠ g → H b = some o → Hm b = some o) → Hm x = none → x ≠ g → H x = none := fun f hx hne => by
          cases e : H _ with
          | none => rfl
          | some o => rw [f _ _ hne e] at hx; cases hx
        have o9 : ∀ b o, b ≠ g → H b = some o → H8 b = some o := fun b o hb q => e8 _ _ hb (e07 _ _ hb q)
        have o10 : ∀ b o, b ≠ g → H b = some o → H10 b = some o := fun b o hb q => by
          have q8 := o9 _ _ hb q
          exact e10 _ _ (ne_of_none q8 nle) (e9 _ _ hb q8)
        have lkf : ∀ f : Str, f ≠ "kept_needed" → fs10.lookup f = fs9.lookup f := fun f h => by rw [← hfs10, lk2 h]
        have gone : ∀ f : Str, f ≠ "kept_many" → f ≠ "kept_ends" → f ≠ "kept_uses" → f ≠ "kept_heard" → f ≠ "kept_parts" → f ≠ "kept_lots" → f ≠ "kept_masks" → f ≠ "kept_into" → f ≠ "kept_entered" → f ≠ "kept_needed" → fs10.lookup f = none := fun f h1 h2 h3 h4 h5 h6 h7 h8 h9 h10 => by
          rw [lkf _ h10, lkx9 _ h9 h8, ← hfs7, lk2 h7, ← hfs6, lk2 h6, ← hfs5, lk2 h5, ← hfs4, lk2 h4, ← hfs3, lk2 h3, lk2 h2, lk2 h1]
          rfl
        refine kk H11 ⟨lt, du, lh, lp, ll, lm, di, le, ln, pas, ias, las⟩ (fun b o hb q => old b o hb q) (fun a ha => ?_) ?_
        · unfold GA.mu at ha
          simp only [List.mem_cons] at ha
          rcases ha with rfl | rfl | rfl | rfl | ha
          · exact nb (fun b o hb q => e2 _ _ hb q) ndu dug
          · exact nb (fun b o hb q => e03 _ _ hb q) nlh lhg
          · exact nb o9 nle leg
          · exact nb o10 nln lng
          · exact nb (fun b o hb q => e04 _ _ hb q) (npas a ha) (pasg a ha)
        · have r5 := lasl.trans lotsl
          exact {
            ins := ⟨dx, fs10, hg11, {
              many := by
                show fs10.lookup _ = _
                rw [lkf _ (by decide), lkx9 _ (by decide) (by decide), ← hfs7, lk2 (by decide), ← hfs6, lk2 (by decide), ← hfs5, lk2 (by decide), ← hfs4, lk2 (by decide), ← hfs3, lk2 (by decide), lk2 (by decide)]
                exact lk1
              ends := (lkf _ (by decide)).trans ((lkx9 _ (by decide) (by decide)).trans lke7)
              uses := (lkf _ (by decide)).trans lku9
              heard := (lkf _ (by decide)).trans lkh9
              parts := by
                show fs10.lookup _ = _
                rw [lkf _ (by decide), lkx9 _ (by decide) (by decide), ← hfs7, lk2 (by decide), ← hfs6, lk2 (by decide), ← hfs5]
                exact lk1
              lots := by
                show fs10.lookup _ = _
                rw [lkf _ (by decide), lkx9 _ (by decide) (by decide), ← hfs7, lk2 (by decide)]
                exact lk6
              masks := (lkf _ (by decide)).trans lkm9
              into := (lkf _ (by decide)).trans lki9
              entered := (lkf _ (by decide)).trans lke9
              needed := by show fs10.lookup _ = _; rw [← hfs10]; exact lk1
              m1 := gone _ (by decide) (by decide) (by decide) (by decide) (by decide) (by decide) (by decide) (by decide) (by decide) (by decide)
              m2 := gone _ (by decide) (by decide) (by decide) (by decide) (by decide) (by decide) (by decide) (by decide) (by decide) (by decide)
              m3 := gone _ (by decide) (by decide) (by decide) (by decide) (by decide) (by decide) (by decide) (by decide) (by decide) (by decide)
              m4 := gone _ (by decide) (by decide) (by decide) (by decide) (by decide) (by decide) (by decide) (by decide) (by decide) (by decide)
              m5 := gone _ (by decide) (by decide) (by decide) (by decide) (by decide) (by decide) (by decide) (by decide) (by decide) (by decide)
              m6 := gone _ (by decide) (by decide) (by decide) (by decide) (by decide) (by decide) (by decide) (by decide) (by decide) (by decide) }⟩
            lks := hlt.mono fun a xs q => old _ _ (neg_of hg q (fun z => nomatch z)) q
            du := e11 _ _ dug du10
            lh := e11 _ _ lhg lh10
            lp := e11 _ _ lpg lp10
            ps := by
              show Paired _ pas (List.replicate k [])
              have lk : pas.length = k := lpas.trans hk
              have key : ∀ (pas : List Addr) (k : Nat), pas.length = k → (∀ b ∈ pas, H11 b = some (.lst [])) → Paired (fun (a : Addr) (T : List Nat) => H11 a = some (.lst (vns T))) pas (List.replicate k []) := by
                intro pas
                induction pas with
                | nil => intro k hk _; cases hk; exact .nil
                | cons b pas ih =>
                  intro k hk h
                  cases k with
                  | zero => cases hk
                  | succ k => exact .cons (h b List.mem_cons_self) (ih k (by simpa using hk) fun c hc => h c (List.mem_cons_of_mem _ hc))
              exact key pas k lk fun b hb => e11 _ _ (pasg b hb) (pas10 b hb)
            ll := e11 _ _ llg ll10
            las := Paired.imp (F := fun (l : List Nat) (b : Addr) => H7 b = some (.tup (vns l))) (fun l b q => e11 _ _ (neg_of hg7 q (fun z => nomatch z)) (mv _ _ (neg_of hg7 q (fun z => nomatch z)) (ne_of_none (e8 _ _ (neg_of hg7 q (fun z => nomatch z)) q) nle) q)) las7
            lm := e11 _ _ lmg lm10
            di := e11 _ _ dig di10
            ias := Paired.impL (F := fun (a : Addr) (e : Nat × Nat) => H10 a = some (.lst (vns (intoOf (masks n) e)))) (fun a e ha q => e11 _ _ (iasg a ha) q) ias10
            le := e11 _ _ leg le10
            ln := by rw [List.map_map]; exact ln11
            ap := {
              hd := by
                show [le, ln, lh, lm, lp, ll].Nodup
                have q1 : le ≠ ln := ne_of_none le10 nln
                have q2 : ln ≠ lh := Ne.symm (ne_of_none lh10 nln)
                have q3 : ln ≠ lm := Ne.symm (ne_of_none lm10 nln)
                have q4 : ln ≠ lp := Ne.symm (ne_of_none lp10 nln)
                have q5 : ln ≠ ll := Ne.symm (ne_of_none ll10 nln)
                have q6 : lh ≠ lm := ne_of_none lh6 nlm
                have q7 : lh ≠ lp := ne_of_none lh4 nlp
                have q8 : lh ≠ ll := ne_of_none lh5 nll
                have q9 : lm ≠ lp := Ne.symm (ne_of_none lp6 nlm)
                have q10 : lm ≠ ll := Ne.symm (ne_of_none ll6 nlm)
                have q11 : lp ≠ ll := ne_of_none lp5 nll
                simp only [List.nodup_cons, List.mem_cons, List.not_mem_nil, or_false, not_or, List.nodup_nil, and_true, not_false_eq_true]
                exact ⟨⟨q1, Ne.symm lhle, Ne.symm lmle, Ne.symm lple, Ne.symm llle⟩, ⟨q2, q3, q4, q5⟩, ⟨q6, q7, q8⟩, ⟨q9, q10⟩, q11⟩
              ps := fun b hb => by
                show b ∉ [le, ln, lh, lm, lp, ll]
                simp only [List.mem_cons, List.not_mem_nil, or_false, not_or]
                exact ⟨pasle b hb, ne_of_none (pas10 b hb) nln, Ne.symm (ne_of_none lh4 (npas b hb)), ne_of_none (pas6 b hb) nlm, paslp b hb, ne_of_none (pas5 b hb) nll⟩
              is := fun a ha => by
                show a ∉ [le, ln, lh, lm, lp, ll]
                have hn := nias a ha
                have a10 : ∃ o, H10 a = some o := by
                  obtain ⟨j, hj⟩ := List.getElem?_of_mem ha
                  obtain ⟨e, _, q⟩ := Paired.get ias10 hj
                  exact ⟨_, q⟩
                obtain ⟨o, a10⟩ := a10
                simp only [List.mem_cons, List.not_mem_nil, or_false, not_or]
                exact ⟨iasle a ha, ne_of_none a10 nln, Ne.symm (ne_of_none lh7 hn), Ne.symm (ne_of_none lm7 hn), Ne.symm (ne_of_none lp7 hn), Ne.symm (ne_of_none ll7 hn)⟩
              px := fun b hb hx => ne_of_none (pas7 b hb) (nias b hx) rfl
              pn := pnd
              d := Ne.symm didu }
            n2 := n2
            n10 := n10
            lks2 := hes
            l60 := l60
            lu := hul
            lT := by rw [List.length_replicate, List.length_replicate]
            l100 := by rw [List.length_replicate]; exact hk100
            lev := by rw [List.length_map]
            lnv := by rw [List.length_map] }
end
end Spt

set_option Elab.async false
set_option linter.all false
set_option maxRecDepth 100000
set_option maxHeartbeats 4000000
/-! sorted(set(a list of ints)) -/
namespace Spt
open PySem PySem.Spec PyProof.Rows L2
section
variable {P : Program} {w : World} {A : Around} {E : Value → Shared → Prop} {s : Shared}
set_option maxRecDepth 100000 in
set_option maxHeartbeats 3200000 in
theorem call_set_lstI {l : Addr} {items : Array Value} (ns : List Int) {Q : Value → Shared → Prop} (hh : A.handled = none) (hl : s.heap.IsList l items) (hit : IntsAre items.toList ns) (hb : ns.length + 1 < scanBound)
    (h : ∀ (h' : Heap) (tk c : Nat), SetR w h' s.heap.objs.size (fun j => decide (j ∈ ns)) c → c ≤ ns.length → (∀ b o, s.heap.get? b = some o → h'.get? b = some o) → Q (.ref s.heap.objs.size) { s with heap := h', toks := tk }) :
    wpAny (model P w) A (call (.type "set") [.ref l]) Q E s := by
  have hisz : items.size = ns.length := by
    have q := IntsAre.length hit
    rw [Array.length_toList] at q
    exact q
  obtain ⟨c, tl, hmro⟩ := F.called_set.mro
  have hmade := F.called_set.made
  have hsub := F.called_set.sub
  refine wpAny_call (codeAny_of_tree ?_)
  show wpAny _ _ (callAny (.type "set") _) _ _ _
  refine wpAny_pure ⟨Code.quiet_builtin _ (by decide +kernel), codeAny_builtin F.entry_type_call ?_⟩
  rw [Around.under_plain (weight_type_call_type "set" [.ref l] []) rfl]
  have h1 := F.called_set.notType
  have h2 := F.called_set.canCreate
  have hct := F.typeCall_set_1 (.ref l)
  repeat (any_goals (first | assumption | wp_step))

  refine codeAny_mono (code_set_led1 (.ref l) (E := E) (Q₁ := fun obj s₁ => obj = .ref s.heap.objs.size ∧ s₁ = { s with heap := s.heap.push { cls := .type "set", dict := none, data := .set #[] 0 (.fresh 0 0 (!w.params.followText "set-order")) } }) ⟨rfl, rfl⟩) fun r s₁ hr => ?_
  cases r with
  | error e => exact hr
  | ok fl =>
    cases fl with
    | ret obj =>
      obtain ⟨rfl, rfl⟩ := hr
      have hS : (s.heap.push { cls := .type "set", dict := none, data := .set #[] 0 (.fresh 0 0 (!w.params.followText "set-order")) }).get? s.heap.objs.size = some { cls := .type "set", dict := none, data := .set #[] 0 (.fresh 0 0 (!w.params.followText "set-order")) } := Heap.get?_push_size _ rfl
      have hT : Shared.TypeIs { s with heap := s.heap.push { cls := .type "set", dict := none, data := .set #[] 0 (.fresh 0 0 (!w.params.followText "set-order")) } } (.ref s.heap.objs.size) "set" := ⟨_, hS, rfl⟩
      have hli := F.called_set.init.lookup
      have hbi := F.called_set.init.bind (.ref s.heap.objs.size)
      repeat (any_goals (first | assumption | wp_step))

      refine codeAny_mono (codeAny_call_builtin (R := wants (fun r s₂ => r = .none ∧ ∃ h' tk c, s₂ = { s with heap := h', toks := tk } ∧ SetR w h' s.heap.objs.size (fun j => decide (j ∈ ns)) c ∧ c ≤ ns.length ∧
          (∀ b o, s.heap.get? b = some o → h'.get? b = some o)) E) F.called_set.init.plain F.entry_set_init (check_set_init_1 hT ?_)) fun r₂ s₂ hr₂ => ?_
      · obtain ⟨ol, hol, hcl, nl, hdl⟩ := hl
        obtain ⟨ocls, odict, odata, oslots⟩ := ol
        simp only at hcl hdl
        subst hcl; subst hdl
        have hol' : (s.heap.push { cls := .type "set", dict := none, data := .set #[] 0 (.fresh 0 0 (!w.params.followText "set-order")) }).get? l = some { cls := .type "list", dict := odict, data := .seq items nl, slots := oslots } := Heap.get?_push_of_some _ hol
        have hsls := F.sub_list_set
        have hslf := F.sub_list_frozenset
        have hne : (Value.type "list" == Value.type "dict") = false := by decide
        have hl1 : (s.heap.push { cls := .type "set", dict := none, data := .set #[] 0 (.fresh 0 0 (!w.params.followText "set-order")) }).IsList l items := ⟨_, hol', rfl, nl, rfl⟩
        unfold Builtin.«set.__init__» noKeywords Builtin.Frozenset.updateFrom
        generalize hPI : pyIter = PI
        wp_walk
        subst hPI

        refine wpAny_pyIter_list hl1 ?_
        refine wpAny_bind (wpAny_runValue ?_)
        have hlS : l < s.heap.objs.size := Heap.lt_size hol
        have hh3 : A.in1.in1.in1.handled = none := by simp [hh]
        have hz1 : (s.heap.push { cls := .type "set", dict := none, data := .set #[] 0 (.fresh 0 0 (!w.params.followText "set-order")) }).objs.size = s.heap.objs.size + 1 := Heap.size_push ..
        have hneI : l ≠ (s.heap.push { cls := .type "set", dict := none, data := .set #[] 0 (.fresh 0 0 (!w.params.followText "set-order")) }).objs.size := by
          rw [Heap.size_push]; exact Nat.ne_of_lt (Nat.lt_succ_of_lt hlS)
        have hSf : s.heap.objs.size ∉ [(s.heap.push { cls := .type "set", dict := none, data := .set #[] 0 (.fresh 0 0 (!w.params.followText "set-order")) }).objs.size, l] := by
          rw [Heap.size_push]; simp only [List.mem_cons, List.mem_singleton, List.not_mem_nil, or_false, not_or]
          exact ⟨Nat.ne_of_lt (Nat.lt_succ_self _), Nat.ne_of_gt hlS⟩
        have hval : ∀ (i : Nat) (v : Value), items[i]? = some v → ∃ k t, ns[i]? = some k ∧ v = .int k t := fun i v hv => by
          have hi : i < ns.length := by rw [← hisz]; exact (Array.getElem?_eq_some_iff.mp hv).1
          obtain ⟨t, e⟩ := PyProof.Rows.IntsAre.int_at hit i v (by rw [Array.getElem?_toList]; exact hv)
          refine ⟨ns[i], t, List.getElem?_eq_getElem hi, ?_⟩
          rw [e, List.getD_eq_getElem?_getD, List.getElem?_eq_getElem hi] <;> rfl
        refine set_update_ints ((Walks.list hh3 _ l hneI items).toS) s.heap.objs.size
          hSf ns hisz hb hval (items.size - 0) 0 _ (by omega) (Nat.zero_le _)
          ⟨⟨_, Heap.get?_push_size _ rfl, rfl, rfl⟩, (hl1.push _)⟩ ?hS0 ?hR
        case hS0 =>
          have hget : ((s.heap.push { cls := .type "set", dict := none, data := .set #[] 0 (.fresh 0 0 (!w.params.followText "set-order")) }).push { cls := .type "list_iterator", data := .fields #[.ref l, .int 0 0] }).get? s.heap.objs.size
              = some { cls := .type "set", dict := none, data := .set #[] 0 (.fresh 0 0 (!w.params.followText "set-order")) } := Heap.get?_push_of_some _ hS
          exact ⟨0, Nat.le_refl 0, setR_new_at hget⟩
        case hR =>
          intro s' c' hm hc' hS'
          obtain ⟨h', g2, d', tk', os'⟩ := s'
          have eg : g2 = s.gens := hm.gens
          have ed : d' = s.drawn := hm.drawn
          have eo : os' = s.os := hm.os
          subst eg; subst ed; subst eo
          show wpAny _ _ _ _ _ _
          refine wpAny_pure ?_
          show wpAny _ _ (ret Value.none) _ _ _
          rw [hisz] at hc'
          refine wpAny_pure ⟨rfl, h', tk', c', rfl, hS', hc', fun b o e => ?_⟩
          have hb0 : b < s.heap.objs.size := Heap.lt_size e
          have hb1 : b ≠ s.heap.objs.size := Nat.ne_of_lt hb0
          have hb2 : b ≠ (s.heap.push { cls := .type "set", dict := none, data := .set #[] 0 (.fresh 0 0 (!w.params.followText "set-order")) }).objs.size := by
            rw [Heap.size_push]; exact Nat.ne_of_lt (Nat.lt_succ_of_lt hb0)
          exact hm.heap b o (by simp only [List.mem_cons, List.mem_singleton, List.not_mem_nil, or_false, not_or]; exact ⟨hb1, hb2⟩) (Heap.get?_push_of_some _ (Heap.get?_push_of_some _ e))

      · cases r₂ with
        | error e => exact hr₂
        | ok fl₂ =>
          cases fl₂ with
          | ret r =>
            obtain ⟨rfl, h', tk, c', rfl, hS', hc', hk'⟩ := hr₂
            repeat (any_goals (first | assumption | wp_step))
            exact h _ _ _ hS' hc' hk'
          | _ => exact hr₂.elim
    | _ => exact hr.elim

end
/-- set(xs), xs a list of ints -/
def rSetOfI (K : PySem.W.Frag) (w : World) : List V → Hp → VK → Prop := fun xs H Q => ∃ (a : Addr) (ns : List Int), xs = [.ref a] ∧ SqL K H a (ns.map V.int) ∧ ns.length ≤ 1000 ∧ ∀ p c, H p = none → c ≤ ns.length → Q (.ref p) (upd H p (SetO w p (fun j => decide (j ∈ ns)) c))
theorem cr_setOfI {X : Cx} (hc : X.calm = true) : CallR X (.type "set") (rSetOfI X.K X.w) := by
  intro pins s σ H xs us Q I r h
  obtain ⟨a, ns, rfl, hq, hl, q⟩ := h
  cases r with
  | cons r rr =>
    cases rr
    cases r
    obtain ⟨its, rv, pt, hz⟩ := I.list hq
    have hi : IntsAre its.toArray.toList ns := ints_of_vals rv
    refine call_set_lstI ns (I.ok.hd hc) pt.isList hi (by unfold scanBound; omega) fun h' tk c R1 hcn k => ?_
    exact ⟨.ref _, upd H s.heap.objs.size (SetO X.w s.heap.objs.size (fun j => decide (j ∈ ns)) c), I.laid (t' := tk) k (Nat.le_refl _) (setO_new R1), rfl, q _ c (I.hok.fresh (Nat.le_refl _)) hcn⟩
end Spt

set_option Elab.async false
set_option linter.all false
/-! trees: ascending tuples of links, grown from the root until all has heard -/
namespace Spt
def IsTree (n root : Nat) (es : List (Nat × Nat)) (L : List Nat) : Prop := (∃ T, Grown es root T (2 ^ n - 1) ∧ L.Perm T) ∧ L.Pairwise (· < ·)
theorem Grown.closed {es : List (Nat × Nat)} {root : Nat} {T : List Nat} {R : Nat} {F : Nat → Prop} (g : Grown es root T R) (h0 : F root) : (∀ i ∈ T, F (tailOf es i) → F (headOf es i)) → ∀ v, R.testBit v = true → F v := by
  induction g with
  | nil =>
    intro _ v hv
    rw [Nat.testBit_two_pow] at hv
    rw [← of_decide_eq_true hv]
    exact h0
  | @snoc T R i e g he h1 h2 ih =>
    intro hc v hv
    have ih := ih fun j hj => hc j (List.mem_append_left _ hj)
    rw [testBit_add_pow _ _ h2, Bool.or_eq_true] at hv
    rcases hv with hv | hv
    · exact ih v hv
    · rw [of_decide_eq_true hv, ← headOf_eq he]
      refine hc i (List.mem_append_right _ List.mem_cons_self) ?_
      rw [tailOf_eq he]
      exact ih _ h1
section
variable {n root : Nat} {es : List (Nat × Nat)} {L : List Nat}
theorem full_bit {n v : Nat} : (2 ^ n - 1).testBit v = true ↔ v < n := by
  rw [Nat.testBit_two_pow_sub_one, decide_eq_true_eq]
theorem IsTree.lt (t : IsTree n root es L) : ∀ i ∈ L, i < es.length := fun i hi => by
  obtain ⟨⟨T, g, p⟩, _⟩ := t
  exact g.lt i (p.mem_iff.mp hi)
theorem IsTree.heads (t : IsTree n root es L) : (L.map (headOf es)).Nodup ∧ root ∉ L.map (headOf es) := by
  obtain ⟨⟨T, g, p⟩, _⟩ := t
  have q := p.map (headOf es)
  exact ⟨q.nodup_iff.mpr g.heads.1, fun h => g.heads.2 (q.mem_iff.mp h)⟩
theorem IsTree.size (t : IsTree n root es L) (hr : root < n) (hl : Links n es) : L.length + 1 = n := by
  obtain ⟨⟨T, g, p⟩, _⟩ := t
  have q := g.pop hr hl
  rw [pop_full] at q
  rw [p.length_eq]
  exact q.symm
theorem headOf_lt (hl : Links n es) {i : Nat} (hi : i < es.length) : headOf es i < n ∧ tailOf es i < n := by
  have h : es[i]? = some es[i] := List.getElem?_eq_getElem hi
  have q := hl _ (List.getElem_mem hi)
  rw [headOf_eq h, tailOf_eq h]
  exact ⟨q.2.1, q.1⟩
theorem IsTree.closed (t : IsTree n root es L) {F : Nat → Prop} (h0 : F root) (hc : ∀ i ∈ L, F (tailOf es i) → F (headOf es i)) : ∀ v, v < n → F v := by
  obtain ⟨⟨T, g, p⟩, _⟩ := t
  exact fun v hv => g.closed h0 (fun i hi => hc i (p.mem_iff.mpr hi)) v (full_bit.mpr hv)
theorem IsTree.all (t : IsTree n root es L) : ∀ v, v < n → v = root ∨ v ∈ L.map (headOf es) := fun v hv => by
  obtain ⟨⟨T, g, p⟩, _⟩ := t
  rcases (g.bits v).mp (full_bit.mpr hv) with h | h
  · exact .inl h
  · exact .inr ((p.map (headOf es)).mem_iff.mpr h)
/-- a list of unlike numbers below n has at most n -/
theorem nodup_len : ∀ {l m : List Nat}, l.Nodup → (∀ x ∈ l, x ∈ m) → l.length ≤ m.length
  | [], _, _, _ => Nat.zero_le _
  | x :: l, m, hn, h => by
    obtain ⟨h1, h2⟩ := List.nodup_cons.mp hn
    have hx := h x List.mem_cons_self
    have ih := nodup_len (m := m.erase x) h2 fun y hy => (List.mem_erase_of_ne (show y ≠ x from fun e => h1 (by rw [← e]; exact hy))).mpr (h y (List.mem_cons_of_mem _ hy))
    rw [List.length_erase_of_mem hx] at ih
    have : 0 < m.length := List.length_pos_of_mem hx
    rw [List.length_cons]
    omega
theorem nodup_le {l : List Nat} {n : Nat} (hn : l.Nodup) (h : ∀ x ∈ l, x < n) : l.length ≤ n := by
  have := nodup_len (m := List.range n) hn fun x hx => List.mem_range.mpr (h x hx)
  rwa [List.length_range] at this
end
theorem sorted_strict {L : List Nat} (h : L.Pairwise (· ≤ ·)) (hn : L.Nodup) : L.Pairwise (· < ·) := by
  have := h.and hn
  exact this.imp fun ⟨a, b⟩ => Nat.lt_of_le_of_ne a b
end Spt

set_option Elab.async false
set_option linter.all false
set_option maxRecDepth 100000
set_option maxHeartbeats 4000000
/-! packing.py: reached, is_wood, is_grown, is_tree, of trees -/
namespace Spt
open PySem PySem.Spec PyProof.Rows L2
theorem vns_app (a b : List Nat) : vns (a ++ b) = vns a ++ vns b := List.map_append
/-- strictly ascending ints that are the numbers of a list -/
theorem nats_of {ys : List Int} {l : List Nat} (hs : ys.Pairwise (· < ·)) (hm : ∀ k : Int, k ∈ ys ↔ decide (k ∈ l.map fun n : Nat => (n : Int)) = true) : ∃ L : List Nat, ys = (L.map fun n : Nat => (n : Int)) ∧ L.Nodup ∧ ∀ x, x ∈ L ↔ x ∈ l := by
  have e : ys = ((ys.map Int.toNat).map fun n : Nat => (n : Int)) := by
    rw [List.map_map]
    refine (List.map_id _).symm.trans (List.map_congr_left fun y hy => ?_)
    obtain ⟨n, _, rfl⟩ := List.mem_map.mp (of_decide_eq_true ((hm y).mp hy))
    simp
  refine ⟨ys.map Int.toNat, e, ?_, fun x => ?_⟩
  · have q : ((ys.map Int.toNat).map fun n : Nat => (n : Int)).Pairwise (· ≠ ·) := by
      rw [← e]
      exact hs.imp fun h => Int.ne_of_lt h
    exact List.Pairwise.of_map _ (fun a b h z => h (by rw [z])) q
  · have q := hm (x : Int)
    rw [decide_eq_true_eq] at q
    have a1 : (x : Int) ∈ ys ↔ x ∈ ys.map Int.toNat := by
      constructor
      · intro h
        exact List.mem_map.mpr ⟨_, h, Int.toNat_natCast x⟩
      · intro h
        rw [e]
        exact List.mem_map.mpr ⟨x, h, rfl⟩
    have a2 : (x : Int) ∈ l.map (fun n : Nat => (n : Int)) ↔ x ∈ l := by
      rw [List.mem_map]
      constructor
      · rintro ⟨n, hn, h⟩
        have : n = x := by omega
        rw [← this]; exact hn
      · exact fun h => ⟨x, h, rfl⟩
    exact a1.symm.trans (q.trans a2)
section
variable {X : Cx} {elt iter c : Expr} {scope : Scope} {x y : Str} {px py pos spos : Pos} {wi : TI} {te : TE} {t : TT}
/-- y = [e for x in ..], slots k, i -/
theorem sln (k i : Nat) (hi : PI X (.Name x px) iter wi) (he : ∀ (s : Shared) (H : Hp) (C : Addr) (cl : List (Str × Addr)) (fp : List Addr), PE (X.blk s H scope (compEnvC scope cl C X.env) fp) elt te) {N ps : List Str} {sc : Scope} (S : FnScope N ps sc) (eN : X.N = N := by rfl) (eS : X.env.scope = sc := by rfl) (ok : blkC N sc scope [(x, i)] = true := by decide +kernel)
    (hc : X.calm = true := by rfl) (hx : X.N[i]? = some x := by rfl) (hl : (PySem.relabel scope X.env).names.lookup x = some .local := by rfl) (hy : X.N[k]? = some y := by rfl) (hyl : X.env.scope.names.lookup y = some .local := by rfl) (hk : X.env.scope.kind = .function := by rfl) (hline : (py.line == pos.line) = true := by rfl) (ha : (scope.names.any fun (n, k) => n == y && (k == .local || k == .cell)) = false := by rfl) (hs : ∀ x, foldedSetIterable iter X.env x = pure x := by intro _; rfl) :
    PS X (.Assign [.Name y py] (.ListComp elt [⟨.Name x px, iter, [], 0⟩] scope pos) spos) (tAsg (tLc wi (gName i) tYes te [i]) (gName k)) :=
  ps_setLc (own := [(x, i)]) hc (eN ▸ S.nd) hy hyl (sw_true hk hyl hline ha) hi (by rw [eN, eS]; exact blkOk_by ok) (fun _ _ _ _ _ => pg_name (eN ▸ S.nd) hx (Or.inl hl) (.inr hl)) (fun _ _ _ _ _ => pts_nil) he hs
/-- y = [e for x in .. if t] -/
theorem slt (k i : Nat) (hi : PI X (.Name x px) iter wi) (ht : ∀ (s : Shared) (H : Hp) (C : Addr) (cl : List (Str × Addr)) (fp : List Addr), PT (X.blk s H scope (compEnvC scope cl C X.env) fp) c t) (he : ∀ (s : Shared) (H : Hp) (C : Addr) (cl : List (Str × Addr)) (fp : List Addr), PE (X.blk s H scope (compEnvC scope cl C X.env) fp) elt te) {N ps : List Str} {sc : Scope} (S : FnScope N ps sc) (eN : X.N = N := by rfl) (eS : X.env.scope = sc := by rfl) (ok : blkC N sc scope [(x, i)] = true := by decide +kernel)
    (hc : X.calm = true := by rfl) (hx : X.N[i]? = some x := by rfl) (hl : (PySem.relabel scope X.env).names.lookup x = some .local := by rfl) (hy : X.N[k]? = some y := by rfl) (hyl : X.env.scope.names.lookup y = some .local := by rfl) (hk : X.env.scope.kind = .function := by rfl) (hline : (py.line == pos.line) = true := by rfl) (ha : (scope.names.any fun (n, k) => n == y && (k == .local || k == .cell)) = false := by rfl) (hs : ∀ x, foldedSetIterable iter X.env x = pure x := by intro _; rfl) :
    PS X (.Assign [.Name y py] (.ListComp elt [⟨.Name x px, iter, [c], 0⟩] scope pos) spos) (tAsg (tLc wi (gName i) t te [i]) (gName k)) :=
  ps_setLc (own := [(x, i)]) hc (eN ▸ S.nd) hy hyl (sw_true hk hyl hline ha) hi (by rw [eN, eS]; exact blkOk_by ok) (fun _ _ _ _ _ => pg_name (eN ▸ S.nd) hx (Or.inl hl) (.inr hl)) (fun s H C cl fp => pts_one (ht s H C cl fp)) he hs
end
section
variable {P : Program} {w : World} {K : PySem.W.Frag} {mg : Str → Option Value} {base : Heap}
/-! reached -/
theorem scReached : FnScope ["net", "lot", "places", "found", "is_longer", "ends", "link", "more", "place"] ["net", "lot", "places"] (defScope sPReached) := ⟨rfl, rfl, rfl, by decide +kernel, rfl, by decide +kernel, by decide +kernel⟩
def spReached (K : PySem.W.Frag) : Sp := fun vs H Q _ => ∃ (g lt a p : Addr) (n root : Nat) (es : List (Nat × Nat)) (l : List Nat), vs = [.ref g, .ref a, .ref p] ∧ NetO K H g n root lt ∧ LinksO H lt es ∧ H a = some (.tup (vns l)) ∧ (∀ i ∈ l, i < es.length) ∧ l.length ≤ 60 ∧ H p = some (.lst [vn root]) ∧ root < n ∧ n ≤ 10 ∧ Links n es ∧
  ∀ H' D fl, Same H H' → H D = none → H' D = some (.lst (vns fl)) → root ∈ fl → (∀ i ∈ l, tailOf es i ∈ fl → headOf es i ∈ fl) → Q (.ref D) H'
theorem okReached (T : Txt K mg) : FnK P w K mg base CX0 1 (He.ga K "reached") ["net", "lot", "places"] (spReached K) := by
  refine FnK.of T.d_PReached scReached (fun _ _ _ _ _ _ us hl => match us, hl with | [_, _, _], _ => rfl) (fun vs H Q E h => ?_) (fun cdv A outer s H vs Q E hr h => ?_)
  · obtain ⟨g, lt, a, p, n, root, es, l, rfl, _⟩ := h
    rfl
  · obtain ⟨g, lt, a, p, n, root, es, l, rfl, hg, hlt, ha, hll, hl60, hp, hroot, n10, hes, k⟩ := h
    obtain ⟨dx, fs, hg', f1, f2, f3⟩ := id hg
    refine ⟨_, pss_cons (ps_set (i := 3) scReached.nd rfl (.inr rfl) (ct call_list_of T.f_list (a1 (pv 2))))
      (pss_cons (ps_set (i := 4) scReached.nd rfl (.inl rfl) pe_bl)
      (pss_cons (ps_while PassesOwn.never (pt_val (pv 4))
        (pss_cons (slt 5 6 (pi_tup (pv 1)) (fun _ _ _ _ _ => pt_cmpR (opIn K) (pe_ix (ixT K) (pe_ix (ixT K) (fldK K (pv 0)) (pv 6) (fun _ _ => rfl)) pe_int (fun _ _ => rfl)) (pv 3) (by rfl)) (fun _ _ _ _ _ => pe_ix (ixT K) (pe_ix (ixT K) (fldK K (pv 0)) (pv 6) (fun _ _ => rfl)) pe_int (fun _ _ => rfl)) scReached)
        (pss_cons (ps_set (i := 7) scReached.nd rfl (.inl rfl) (cb (cr_sortedSet rfl) T.f_sorted (a1 (ct (cr_setOfI rfl) T.f_set (a1 (lct 8 (pi_list (pv 5)) (fun _ _ _ _ _ => pt_cmpR (opNotIn K) (pv 8) (pv 3) (by rfl)) (fun _ _ _ _ _ => pv 8) scReached))))))
        (pss_cons (ps_set (i := 4) scReached.nd rfl (.inl rfl) (pe_cmpR op_gt (cb call_len T.f_len (a1 (pv 7))) pe_int (nomark _)))
        (pss_one (ps_expr (pe_bm PySem.F.plainAttrs_list PySem.F.slot_list_extend PySem.F.type_list_extend mt_extend (pv 3) (a1 (pv 7)))))))))
      (pss_one (ps_ret (pv 3))))), ?_⟩
    refine ⟨_, rfl, p, _, rfl, .inl (SqL.of hp), fun D hD => ?_⟩
    have lk : ∀ i ∈ l, ∃ xs b, H lt = some (.tup xs) ∧ xs[i]? = some (.ref b) ∧ H b = some (.tup [vn (tailOf es i), vn (headOf es i)]) := fun i hi => by
      have he : es[i]? = some (es[i]'(hll i hi)) := List.getElem?_eq_getElem _
      obtain ⟨xs, b, q1, q2, q3⟩ := hlt.get he
      refine ⟨xs, b, q1, q2, ?_⟩
      rw [tailOf_eq he, headOf_eq he]
      exact q3
    refine ⟨fun m σ H1 => Same H H1 ∧ ∃ (fl : List Nat) (b : Bool), H1 D = some (.lst (vns fl)) ∧ fl.Nodup ∧ (∀ x ∈ fl, x < n) ∧ root ∈ fl ∧ (∃ v5 v6 v7 v8, σ = [some (.ref g), some (.ref a), some (.ref p), some (.ref D), some (.bl b), v5, v6, v7, v8]) ∧ m = (n - fl.length) * 2 + (if b then 1 else 0) ∧ (b = false → ∀ i ∈ l, tailOf es i ∈ fl → headOf es i ∈ fl),
      ⟨_, same_new hD, [root], true, upd_same, by simp, fun x hx => by rw [List.mem_singleton.mp hx]; exact hroot, by simp, ⟨_, _, _, _, rfl⟩, rfl, fun z => nomatch z⟩, ?_⟩
    rintro m σ H1 ⟨s1, fl, b, hD1, hnd, hlt1, hr1, ⟨v5, v6, v7, v8, rfl⟩, rfl, hcl⟩
    refine ⟨_, rfl, b, rfl, ?_⟩
    cases b with
    | false =>
      refine iteF ?_
      exact ⟨_, rfl, k H1 D fl s1 hD hD1 hr1 (hcl rfl)⟩
    | true =>
      refine iteT ?_
      have flen := nodup_le hnd hlt1
      refine ⟨fun σ' H' => ∃ m', m' < (n - fl.length) * 2 + 1 ∧ (Same H H' ∧ ∃ (fl : List Nat) (b : Bool), H' D = some (.lst (vns fl)) ∧ fl.Nodup ∧ (∀ x ∈ fl, x < n) ∧ root ∈ fl ∧ (∃ v5 v6 v7 v8, σ' = [some (.ref g), some (.ref a), some (.ref p), some (.ref D), some (.bl b), v5, v6, v7, v8]) ∧ m' = (n - fl.length) * 2 + (if b then 1 else 0) ∧ (b = false → ∀ i ∈ l, tailOf es i ∈ fl → headOf es i ∈ fl)), fun σ' H' h => h, ?_⟩
      -- ends
      refine ⟨_, rfl, a, rfl, ⟨_, SqT.of (s1 _ _ ha)⟩, fun D2 hD2 => ?_⟩
      refine comp_tup (K := K) l vn (fun i => decide (tailOf es i ∈ fl)) (fun _ i y => y = vn (headOf es i)) hD2 (SqT.of (s1 _ _ ha)) (by rw [sizeLine_eq]; omega) (fun _ _ _ _ _ h => h) (fun _ => rfl) (fun i hi H2 s2 Qb q => ?_) (fun i hi _ H2 s2 _ Qv q => ?_) (fun H2 ys s2 d2 r => ?_)
      · have s12 := s1.trans s2
        obtain ⟨xs, b, q1, q2, q3⟩ := lk i hi
        refine ⟨_, rfl, g, _, dx, fs, _, rfl, s12 _ _ hg', T.c_Net, T.n_links, f3, _, rfl, lt, _, _, _, rfl, rfl, SqT.of (s12 _ _ q1), atI_nat q2, b, _, 0, _, rfl, rfl, SqT.of (s12 _ _ q3), rfl, _, rfl, D, _, rfl, .inl (SqL.of (s2 _ _ hD1)), rfl, vns_flat _, _, rfl, ?_⟩
        rw [inV_vns]
        exact q H2 (Same.refl _)
      · have s12 := s1.trans s2
        obtain ⟨xs, b, q1, q2, q3⟩ := lk i hi
        exact ⟨_, rfl, g, _, dx, fs, _, rfl, s12 _ _ hg', T.c_Net, T.n_links, f3, _, rfl, lt, _, _, _, rfl, rfl, SqT.of (s12 _ _ q1), atI_nat q2, b, _, 1, _, rfl, rfl, SqT.of (s12 _ _ q3), rfl, q _ H2 (Same.refl _) rfl⟩
      have ey := Paired.eq_map r
      subst ey
      have hD2' := s2 _ _ hD1
      -- more
      have eE : (l.filter fun i => decide (tailOf es i ∈ fl)).map (fun i => vn (headOf es i)) = vns ((l.filter fun i => decide (tailOf es i ∈ fl)).map (headOf es)) := by unfold vns; rw [List.map_map]; rfl
      rw [eE] at d2
      generalize hE : (l.filter fun i => decide (tailOf es i ∈ fl)).map (headOf es) = En at d2
      have hEl : En.length ≤ 60 := by
        rw [← hE, List.length_map]
        exact Nat.le_trans (List.length_filter_le _ _) hl60
      refine ⟨_, rfl, D2, rfl, ⟨_, SqL.of d2⟩, fun D3 hD3 => ?_⟩
      refine comp_list (K := K) En vn (fun x => !decide (x ∈ fl)) (fun _ x y => y = vn x) hD3 (SqL.of d2) (by rw [sizeLine_eq]; omega) (fun _ _ _ _ _ h => h) (fun _ => rfl) (fun x hx H3 s3 Qb q => ?_) (fun x hx _ H3 s3 _ Qv q => ⟨_, rfl, q _ H3 (Same.refl _) rfl⟩) (fun H3 ys s3 d3 r => ?_)
      · refine ⟨_, rfl, _, rfl, D, _, rfl, .inl (SqL.of (s3 _ _ hD2')), rfl, vns_flat _, _, rfl, ?_⟩
        rw [inV_vns]
        exact q H3 (Same.refl _)
      have ey := Paired.eq_map r
      subst ey
      have eM : (En.filter fun x => !decide (x ∈ fl)).map (fun x => vn x) = (((En.filter fun x => !decide (x ∈ fl)).map fun n : Nat => (n : Int))).map V.int := vns_eq _
      rw [eM] at d3
      have hMl : (En.filter fun x => !decide (x ∈ fl)).length ≤ 60 := Nat.le_trans (List.length_filter_le _ _) hEl
      refine ⟨D3, _, rfl, SqL.of d3, by rw [List.length_map]; omega, fun S c nS hc => ?_⟩
      rw [List.length_map] at hc
      refine ⟨S, _, c, rfl, upd_same, by omega, fun ns M srt mem lenM nM => ?_⟩
      obtain ⟨Mn, rfl, Mnd, Mmem⟩ := nats_of srt mem
      have s4 : Same H3 (upd (upd H3 S (SetO w S (fun j => decide (j ∈ (En.filter fun x => !decide (x ∈ fl)).map fun n : Nat => (n : Int))) c)) M (.lst ((Mn.map fun n : Nat => (n : Int)).map V.int))) := (same_new nS).trans (same_new nM)
      have dM : upd (upd H3 S (SetO w S (fun j => decide (j ∈ (En.filter fun x => !decide (x ∈ fl)).map fun n : Nat => (n : Int))) c)) M (.lst ((Mn.map fun n : Nat => (n : Int)).map V.int)) M = some (.lst (vns Mn)) := by rw [upd_same, vns_eq]
      have nDM : D ≠ M := ne_of_none ((same_new nS) _ _ (s3 _ _ hD2')) nM
      have hD4 := s4 _ _ (s3 _ _ hD2')
      clear nM
      have s14 := ((s1.trans s2).trans s3).trans s4
      refine ⟨_, rfl, _, Mn.length, rfl, .inl ⟨_, SqL.of dM, (vns_len Mn).symm⟩, _, _, rfl, rfl, ?_⟩
      refine ⟨_, rfl, .inl ⟨rfl, _, SqL.of hD4⟩, _, rfl, D, M, _, _, rfl, rfl, hD4, dM, ?_, ?_⟩
      · rw [vns_len, vns_len, sizeLine_eq]
        rw [List.length_map] at lenM
        omega
      · -- the turn's end
        have memM : ∀ x, x ∈ Mn ↔ (∃ i ∈ l, tailOf es i ∈ fl ∧ headOf es i = x) ∧ x ∉ fl := fun x => by
          rw [Mmem x, List.mem_filter, ← hE, List.mem_map]
          constructor
          · rintro ⟨⟨i, hi, rfl⟩, h2⟩
            obtain ⟨i1, i2⟩ := List.mem_filter.mp hi
            refine ⟨⟨i, i1, of_decide_eq_true i2, rfl⟩, ?_⟩
            rw [Bool.not_eq_true', decide_eq_false_iff_not] at h2
            exact h2
          · rintro ⟨⟨i, i1, i2, rfl⟩, h2⟩
            exact ⟨⟨i, List.mem_filter.mpr ⟨i1, decide_eq_true i2⟩, rfl⟩, by rw [Bool.not_eq_true', decide_eq_false_iff_not]; exact h2⟩
        have newnd : (fl ++ Mn).Nodup := List.nodup_append.mpr ⟨hnd, Mnd, fun x hx y hy z => ((memM y).mp hy).2 (z ▸ hx)⟩
        have newlt : ∀ x ∈ fl ++ Mn, x < n := fun x hx => by
          rcases List.mem_append.mp hx with hx | hx
          · exact hlt1 x hx
          · obtain ⟨⟨i, hi, _, rfl⟩, _⟩ := (memM x).mp hx
            exact (headOf_lt hes (hll i hi)).1
        have newlen := nodup_le newnd newlt
        rw [List.length_append] at newlen
        refine ⟨_, ?_, same_mut s14 hD, fl ++ Mn, decide (0 < Mn.length), ?_, newnd, newlt, List.mem_append_left _ hr1, ⟨some (.ref D2), v6, some (.ref M), v8, ?_⟩, rfl, fun hb i hi ht => ?_⟩
        · rw [List.length_append]
          by_cases c0 : 0 < Mn.length
          · rw [decide_eq_true c0, if_pos rfl]; omega
          · rw [decide_eq_false c0, if_neg Bool.false_ne_true]; omega
        · rw [upd_same, vns_app]
        · have eb : decide ((0 : Int) < (Mn.length : Int)) = decide (0 < Mn.length) := by
            rw [Bool.eq_iff_iff, decide_eq_true_eq, decide_eq_true_eq]
            omega
          show [_, _, _, _, some (V.bl (decide ((0 : Int) < (Mn.length : Int)))), _, _, _, _] = _
          rw [eb]
        · have h0 : Mn = [] := by
            have := of_decide_eq_false hb
            exact List.length_eq_zero_iff.mp (by omega)
          rw [h0, List.append_nil] at ht ⊢
          by_cases c1 : headOf es i ∈ fl
          · exact c1
          · have : headOf es i ∈ Mn := (memM _).mpr ⟨⟨i, hi, ht, rfl⟩, c1⟩
            rw [h0] at this
            cases this
end
end Spt

set_option Elab.async false
set_option linter.all false
set_option maxRecDepth 100000
set_option maxHeartbeats 4000000
/-! packing.py: is_wood, is_grown, is_tree, of trees -/
namespace Spt
open PySem PySem.Spec PyProof.Rows L2
theorem lotOk_of : ∀ {l : List Nat} {last : Int} {m : Nat}, l.Pairwise (· < ·) → (∀ x ∈ l, x < m) → (∀ x ∈ l, last < (x : Int)) → lotOk last l m
  | [], _, _, _, _, _ => trivial
  | z :: r, last, m, hp, hm, hl => ⟨hl z List.mem_cons_self, hm z List.mem_cons_self, lotOk_of (List.pairwise_cons.mp hp).2 (fun x hx => hm x (List.mem_cons_of_mem _ hx)) fun x hx => by
      have := (List.pairwise_cons.mp hp).1 x hx
      omega⟩
theorem all_true {α : Type} (l : List α) (f : α → Bool) (h : ∀ x ∈ l, f x = true) : (l.map f).all id = true := by
  rw [List.all_map, List.all_eq_true]
  exact h
section
variable {P : Program} {w : World} {K : PySem.W.Frag} {mg : Str → Option Value} {base : Heap}
theorem scIsWood : FnScope ["net", "lot", "places", "ends", "link", "place", "heard"] ["net", "lot", "places"] (defScope sPIsWood) := ⟨rfl, rfl, rfl, by decide +kernel, rfl, by decide +kernel, by decide +kernel⟩
def spIsWood (K : PySem.W.Frag) : Sp := fun vs H Q _ => ∃ (g lt a p : Addr) (n root : Nat) (es : List (Nat × Nat)) (l : List Nat), vs = [.ref g, .ref a, .ref p] ∧ NetO K H g n root lt ∧ LinksO H lt es ∧ H a = some (.tup (vns l)) ∧ IsTree n root es l ∧ H p = some (.lst [vn root]) ∧ root < n ∧ n ≤ 10 ∧ Links n es ∧
  ∀ H', Same H H' → Q (.bl true) H'
theorem okIsWood (T : Txt K mg) : FnK P w K mg base CX0 2 (He.ga K "is_wood") ["net", "lot", "places"] (spIsWood K) := by
  refine FnK.of T.d_PIsWood scIsWood (fun _ _ _ _ _ _ us hl => match us, hl with | [_, _, _], _ => rfl) (fun vs H Q E h => ?_) (fun cdv A outer s H vs Q E hr h => ?_)
  · obtain ⟨g, lt, a, p, n, root, es, l, rfl, _⟩ := h
    rfl
  · obtain ⟨g, lt, a, p, n, root, es, l, rfl, hg, hlt, ha, tr, hp, hroot, n10, hes, k⟩ := h
    obtain ⟨dx, fs, hg', f1, f2, f3⟩ := id hg
    have hll := tr.lt
    have hsz := tr.size hroot hes
    have hh := tr.heads
    refine ⟨_, pss_cons (ps_set (i := 3) scIsWood.nd rfl (.inr rfl) (lcn 4 (pi_tup (pv 1)) (fun _ _ _ _ _ => pe_ix (ixT K) (pe_ix (ixT K) (fldK K (pv 0)) (pv 4) (fun _ _ => rfl)) pe_int (fun _ _ => rfl)) scIsWood))
      (pss_cons (ps_if (PW.pt (pw_or (pt_cmpR op_lt (RZ.pe_lenSetI rfl T.f_len rfl T.f_set (pv 3)) (cb call_len T.f_len (a1 (pv 3))) (nomark _)) (pw_or1 (pt_val (cb (cr_any rfl) T.f_any (a1 (lcn 5 (pi_list (pv 2)) (fun _ _ _ _ _ => pe_cmpR (opIn K) (pv 5) (pv 3) (by rfl)) scIsWood))))))) (pss_one (ps_ret pe_bl)) pss_nil)
      (pss_cons (ps_set (i := 6) scIsWood.nd rfl (.inr rfl) (cl (okReached T) hr T.g_reached (a3 (pv 0) (pv 1) (pv 2))))
      (pss_one (ps_ret (cb (cr_all rfl) T.f_all (a1 (lcn 5 (pi_list (pv 3)) (fun _ _ _ _ _ => pe_cmpR (opIn K) (pv 5) (pv 6) (by rfl)) scIsWood))))))), ?_⟩
    have lk : ∀ i ∈ l, ∃ xs b, H lt = some (.tup xs) ∧ xs[i]? = some (.ref b) ∧ H b = some (.tup [vn (tailOf es i), vn (headOf es i)]) := fun i hi => by
      have he : es[i]? = some (es[i]'(hll i hi)) := List.getElem?_eq_getElem _
      obtain ⟨xs, b, q1, q2, q3⟩ := hlt.get he
      refine ⟨xs, b, q1, q2, ?_⟩
      rw [tailOf_eq he, headOf_eq he]
      exact q3
    -- ends
    refine ⟨_, rfl, a, rfl, ⟨_, SqT.of ha⟩, fun D hD => ?_⟩
    refine comp_tup (K := K) l vn (fun _ => true) (fun _ i y => y = vn (headOf es i)) hD (SqT.of ha) (by rw [sizeLine_eq]; omega) (fun _ _ _ _ _ h => h) (fun _ => rfl) (fun x _ H1 s1 Qb q => q H1 (Same.refl _)) (fun i hi _ H2 s2 _ Qv q => ?_) (fun H1 ys s1 d1 r => ?_)
    · obtain ⟨xs, b, q1, q2, q3⟩ := lk i hi
      exact ⟨_, rfl, g, _, dx, fs, _, rfl, s2 _ _ hg', T.c_Net, T.n_links, f3, _, rfl, lt, _, _, _, rfl, rfl, SqT.of (s2 _ _ q1), atI_nat q2, b, _, 1, _, rfl, rfl, SqT.of (s2 _ _ q3), rfl, q _ H2 (Same.refl _) rfl⟩
    rw [List.filter_eq_self.mpr (fun _ _ => rfl)] at r
    have ey := Paired.eq_map r
    subst ey
    have eE : l.map (fun i => vn (headOf es i)) = vns (l.map (headOf es)) := by unfold vns; rw [List.map_map]; rfl
    rw [eE] at d1
    have hlen : (l.map (headOf es)).length = l.length := List.length_map _
    have d1i := d1
    rw [vns_eq] at d1i
    refine ⟨_, rfl, D, _, rfl, SqL.of d1i, ?_, by rw [List.length_map, hlen]; omega, _, rfl, _, (l.map (headOf es)).length, rfl, .inl ⟨_, SqL.of d1, (vns_len _).symm⟩, _, _, rfl, rfl, false, blF (by rw [List.length_map]; omega), ?_⟩
    · rw [List.Nodup, List.pairwise_map]
      exact hh.1.imp fun h z => h (by omega)
    refine iteF ?_
    refine ⟨_, rfl, p, rfl, ⟨_, SqL.of (s1 _ _ hp)⟩, fun D2 hD2 => ?_⟩
    refine comp_list (K := K) [root] vn (fun _ => true) (fun _ x y => y = .bl false) hD2 (SqL.of (s1 _ _ hp)) (by rw [sizeLine_eq, List.length_singleton]; decide) (fun _ _ _ _ _ h => h) (fun _ => rfl) (fun x _ H1 s1 Qb q => q H1 (Same.refl _)) (fun x hx _ H2 s2 _ Qv q => ?_) (fun H2 ys s2 d2 r => ?_)
    · refine ⟨_, rfl, _, rfl, D, _, rfl, .inl (SqL.of (s2 _ _ d1)), rfl, vns_flat _, ?_⟩
      rw [List.mem_singleton.mp hx, inV_vns, decide_eq_false hh.2]
      exact q _ H2 (Same.refl _) rfl
    rw [List.filter_eq_self.mpr (fun _ _ => rfl)] at r
    have ey := Paired.eq_map r
    subst ey
    refine ⟨D2, [false], rfl, SqL.of d2, false, rfl, ?_⟩
    refine iteF ?_
    have s12 := s1.trans s2
    refine ⟨_, rfl, _, rfl, _, rfl, g, lt, a, p, n, root, es, l, rfl, hg.same s12, hlt.same s12, s12 _ _ ha, hll, by omega, s12 _ _ hp, hroot, n10, hes, fun H3 F fl s3 nF dF hrf hcl => ?_⟩
    have d3 := s3 _ _ (s2 _ _ d1)
    refine ⟨_, rfl, D, rfl, ⟨_, SqL.of d3⟩, fun D4 hD4 => ?_⟩
    refine comp_list (K := K) (l.map (headOf es)) vn (fun _ => true) (fun _ x y => y = .bl true) hD4 (SqL.of d3) (by rw [hlen, sizeLine_eq]; omega) (fun _ _ _ _ _ h => h) (fun _ => rfl) (fun x _ H1 s1 Qb q => q H1 (Same.refl _)) (fun x hx _ H4 s4 _ Qv q => ?_) (fun H4 ys s4 d4 r => ?_)
    · refine ⟨_, rfl, _, rfl, F, _, rfl, .inl (SqL.of (s4 _ _ dF)), rfl, vns_flat _, ?_⟩
      have hxf : x ∈ fl := by
        obtain ⟨i, hi, rfl⟩ := List.mem_map.mp hx
        exact tr.closed (F := (· ∈ fl)) hrf hcl _ (headOf_lt hes (hll i hi)).1
      rw [inV_vns, decide_eq_true hxf]
      exact q _ H4 (Same.refl _) rfl
    rw [List.filter_eq_self.mpr (fun _ _ => rfl)] at r
    have ey := Paired.eq_map r
    subst ey
    refine ⟨D4, (l.map (headOf es)).map fun _ => true, rfl, by rw [List.map_map]; exact SqL.of d4, ?_⟩
    rw [all_true _ _ (fun _ _ => rfl)]
    exact k H4 ((s12.trans s3).trans s4)
/-! is_grown -/
theorem scIsGrown : FnScope ["net", "thing"] ["net", "thing"] (defScope sPIsGrown) := ⟨rfl, rfl, rfl, by decide +kernel, rfl, by decide +kernel, by decide +kernel⟩
def spIsGrown (K : PySem.W.Frag) : Sp := fun vs H Q _ => ∃ (g lt a : Addr) (n root : Nat) (es : List (Nat × Nat)) (l : List Nat), vs = [.ref g, .ref a] ∧ NetO K H g n root lt ∧ LinksO H lt es ∧ H a = some (.tup (vns l)) ∧ IsTree n root es l ∧ root < n ∧ n ≤ 10 ∧ Links n es ∧ ∀ H', Same H H' → Q (.bl true) H'
theorem IsTree.lotOk {n root : Nat} {es : List (Nat × Nat)} {l : List Nat} (t : IsTree n root es l) : lotOk (-1) l es.length := lotOk_of t.2 t.lt (fun x _ => by omega)
theorem okIsGrown (T : Txt K mg) : FnK P w K mg base CX0 5 (He.ga K "is_grown") ["net", "thing"] (spIsGrown K) := by
  refine FnK.of T.d_PIsGrown scIsGrown (fun _ _ _ _ _ _ us hl => match us, hl with | [_, _], _ => rfl) (fun vs H Q E h => ?_) (fun cdv A outer s H vs Q E hr h => ?_)
  · obtain ⟨g, lt, a, n, root, es, l, rfl, _⟩ := h
    rfl
  · obtain ⟨g, lt, a, n, root, es, l, rfl, hg, hlt, ha, tr, hroot, n10, hes, k⟩ := h
    obtain ⟨dx, fs, hg', f1, f2, f3⟩ := id hg
    refine ⟨_, pss_cons (ps_expr (cl ((okCheckNet T).mono (by decide)) hr T.g_check_net (a1 (pv 0)))) (pss_one (ps_ret (pe_and (cl (okIsLotOf T) hr T.g_is_lot_of (a2 (pv 0) (pv 1))) (pe_one (cl ((okIsWood T).mono (by decide)) hr T.g_is_wood (a3 (pv 0) (pv 1) (pe_lst (a1 (pe_fld (pv 0) rfl))))))))), ?_⟩
    refine ⟨_, rfl, g, lt, n, root, rfl, hg, ?_⟩
    refine ⟨_, rfl, _, rfl, g, lt, a, n, root, es, l, rfl, hg, hlt, ha, tr.lotOk, true, rfl, ?_⟩
    refine ⟨_, rfl, _, rfl, _, rfl, g, _, dx, fs, _, rfl, hg', T.c_Net, T.n_root, f2, by show 1 ≤ sizeLine; rw [sizeLine_eq]; decide, fun p np => ?_⟩
    have s1 : Same H (upd H p (.lst [vn root])) := same_new np
    exact ⟨g, lt, a, p, n, root, es, l, rfl, hg.same s1, hlt.same s1, s1 _ _ ha, tr, upd_same, hroot, n10, hes, fun H2 s2 => k H2 (s1.trans s2)⟩
/-! is_tree -/
theorem scIsTree : FnScope ["net", "thing"] ["net", "thing"] (defScope sPIsTree) := ⟨rfl, rfl, rfl, by decide +kernel, rfl, by decide +kernel, by decide +kernel⟩
theorem okIsTree (T : Txt K mg) : FnK P w K mg base CX0 6 (He.ga K "is_tree") ["net", "thing"] (spIsGrown K) := by
  refine FnK.of T.d_PIsTree scIsTree (fun _ _ _ _ _ _ us hl => match us, hl with | [_, _], _ => rfl) (fun vs H Q E h => ?_) (fun cdv A outer s H vs Q E hr h => ?_)
  · obtain ⟨g, lt, a, n, root, es, l, rfl, _⟩ := h
    rfl
  · obtain ⟨g, lt, a, n, root, es, l, rfl, hg, hlt, ha, tr, hroot, n10, hes, k⟩ := h
    obtain ⟨dx, fs, hg', f1, f2, f3⟩ := id hg
    refine ⟨_, pss_one (ps_ret (pe_and (cl (okIsGrown T) hr T.g_is_grown (a2 (pv 0) (pv 1))) (pe_one (pe_cmpR op_eq (cb call_len T.f_len (a1 (pv 1))) (pe_op op_sub (pe_fld (pv 0) rfl) pe_int) (nomark _))))), ?_⟩
    refine ⟨_, rfl, _, rfl, g, lt, a, n, root, es, l, rfl, hg, hlt, ha, tr, hroot, n10, hes, fun H1 s1 => ⟨true, rfl, ?_⟩⟩
    have hsz := tr.size hroot hes
    refine ⟨_, rfl, _, l.length, rfl, .inr ⟨_, SqT.of (s1 _ _ ha), (vns_len l).symm⟩, _, rfl, g, _, dx, fs, _, rfl, s1 _ _ hg', T.c_Net, T.n_many, f1, _, _, rfl, rfl, rfl, ?_⟩
    have e : decide (V.int (l.length : Int) = V.int ((n : Int) - 1)) = true := by
      rw [dec_int, beq_iff_eq]
      omega
    show Q (.bl (decide (V.int (l.length : Int) = V.int ((n : Int) - 1)))) H1
    rw [e]
    exact k H1 s1
end
end Spt

set_option Elab.async false
set_option linter.all false
set_option maxRecDepth 100000
set_option maxHeartbeats 4000000
/-! sorted(a dict whose keys are tuples of numbers) -/
namespace Spt
open PySem PySem.Spec PyProof.Rows L2
theorem perm_of_map {α β : Type} (f : α → β) : ∀ {l k : List β}, l.Perm k → ∀ m : List α, k = m.map f → ∃ m' : List α, m'.Perm m ∧ l = m'.map f := by
  intro l k h
  induction h with
  | nil =>
    intro m e
    cases m with
    | nil => exact ⟨[], List.Perm.refl _, rfl⟩
    | cons a m => cases e
  | @cons x l k h ih =>
    intro m e
    cases m with
    | nil => cases e
    | cons a m =>
      rw [List.map_cons] at e
      injection e with e1 e2
      obtain ⟨m', p, e3⟩ := ih m e2
      exact ⟨a :: m', p.cons a, by rw [List.map_cons, ← e1, e3]⟩
  | swap x y t =>
    intro m e
    cases m with
    | nil => cases e
    | cons a m =>
      cases m with
      | nil => cases e
      | cons b m =>
        rw [List.map_cons, List.map_cons] at e
        injection e with e1 e2
        injection e2 with e2 e3
        exact ⟨b :: a :: m, .swap a b m, by rw [List.map_cons, List.map_cons, ← e1, ← e2, ← e3]⟩
  | trans _ _ ih1 ih2 =>
    intro m e
    obtain ⟨m2, p2, e2⟩ := ih2 m e
    obtain ⟨m1, p1, e1⟩ := ih1 m2 e2
    exact ⟨m1, p1.trans p2, e1⟩
def DRaw (es : Array DictEntry) (ep : Nat) (d : Addr) (h : Heap) : Prop := (d == sysModules) = false ∧ ∃ o, h.get? d = some o ∧ o.ExactDict ∧ o.data = .dict es ep
theorem walks_keys {prog : Program} {w : World} {A : Around} (hh : A.handled = none) (I d : Addr) (hne : d ≠ I) (es : Array DictEntry) (ep : Nat) :
    Walks prog w A I [I, d] [I] es.size (fun i v => ∃ en, es[i]? = some en ∧ v = en.key) (fun i h => h.IsKeyIter I d i es.size ep ∧ ∃ o, h.get? d = some o ∧ o.data = .dict es ep) where
  sub := fun b hb => by simp at hb; simp [hb]
  frame := fun _ _ _ st hk => ⟨st.1.at fun o e => hk I (by simp) o e, let ⟨o, e, q⟩ := st.2; ⟨o, hk d (by simp) o e, q⟩⟩
  item := fun i s Q E hi st hQ => by
    obtain ⟨h1, o, ho, hd⟩ := st
    have hen := Array.getElem?_eq_getElem hi
    refine next_key_item h1 ho hd rfl hen fun h' st' sb => ?_
    exact hQ _ h' s.toks ⟨_, hen, rfl⟩ ⟨st', o, (sb.2 d hne).trans ho, hd⟩ fun b o hb e => (sb.2 b (fun z => hb (by simp [z]))).trans e
  done := fun s Q E st hQ => by
    obtain ⟨h1, o, ho, hd⟩ := st
    exact next_key_end hh h1 ho hd rfl (Nat.le_refl _) fun h' eb => hQ h' s.toks fun b o hb e => eb b o (fun z => hb (by simp [z])) e
  self := fun i s Q E st h => by
    refine wpAny_pyIter_slot st.1.typeIs F.slot_dict_keyiterator_iter (wpAny_call_entry F.slot_dict_keyiterator_iter st.1.typeIs F.entry_dict_keyiterator_iter ?_ (F.args_dict_keyiterator_iter_1 _))
    show wpAny _ _ (ret (.ref I)) _ _ s
    exact wpAny_pure ⟨_, rfl, "dict_keyiterator", _, st.1.typeIs, F.slot_dict_keyiterator_next.lookup, h⟩
theorem kdl_raw {prog : Program} {w : World} (d : Addr) (es : Array DictEntry) (ep : Nat) : PySem.W.KdlSrc prog w "dict" d d es.size (fun i v => ∃ en, es[i]? = some en ∧ v = en.key) (DRaw es ep d) where
  type := fun s ⟨_, o, ho, hx, _⟩ => ⟨o, ho, hx.1⟩
  there := fun h ⟨_, o, ho, _⟩ => ⟨Heap.lt_size ho, Heap.lt_size ho⟩
  keep := fun h h' ⟨lo, o, ho, r⟩ hk => ⟨lo, o, hk d (.inl rfl) _ ho, r⟩
  notList := by decide
  notTuple := by decide
  hint := fun A E s Q ⟨_, o, ho, hx, _⟩ hq => PySem.W.kdl_hint_dict ⟨o, ho, hx.1⟩ hq
  iter := fun A s hh ⟨lo, o, ho, hx, hd⟩ => ⟨_, _, (fun E Q hq => iter_keys lo ho hx hd hq), walks_keys hh _ d (Nat.ne_of_lt (Heap.lt_size ho)) es ep, ⟨⟨_, Heap.get?_push_size _ rfl, rfl, rfl⟩, o, Heap.get?_push_of_some _ ho, hd⟩⟩
def code60 (L : List Nat) : Int := TS.code 60 (L.map fun n : Nat => (n : Int))
def rSortedDT : List V → Hp → VK → Prop := fun xs H Q => ∃ (a : Addr) (kvs : List (List Key × V)) (ks : List (List Nat)) (d : Nat), xs = [.ref a] ∧ H a = some (.dT kvs) ∧ kvs.map (·.1) = ks.map (·.map numK) ∧ ks.length < 64 ∧ 1 ≤ d ∧ (∀ L ∈ ks, L.length = d ∧ ∀ x ∈ L, x < 60) ∧
  ∀ (ks' : List (List Nat)) (as : List Addr) (p : Addr), ks'.Perm ks → ks'.Pairwise (fun x y => code60 x ≤ code60 y) → H p = none → LotsO H as ks' → Q (.ref p) (upd H p (.lst (as.map V.ref)))
theorem numK_inj' : ∀ {a b : List Nat}, a.map numK = b.map numK → a = b
  | [], [], _ => rfl
  | [], _ :: _, h => nomatch h
  | _ :: _, [], h => nomatch h
  | x :: a, y :: b, h => by
    rw [List.map_cons, List.map_cons] at h
    injection h with h1 h2
    rw [numK_inj h1, numK_inj' h2]
theorem kV_vns (L : List Nat) : (L.map numK).map kV = vns L := by
  rw [List.map_map]
  rfl
theorem cr_sortedDT {X : Cx} (hcalm : X.calm = true) : CallR X (.builtin "sorted") rSortedDT := by
  intro pins s σ H xs us Q I r q
  obtain ⟨a, kvs, ks, d, ex, hd, hks, h64, d1, hB, q⟩ := q
  subst ex
  obtain ⟨u, eu, rx⟩ := vals1 r
  subst eu
  cases rx
  obtain ⟨z, lo, xs, kt, o, es, ep, ho, hx, hdat, hes, hkis, hnd⟩ := dt_of I.hok hd
  -- the rows
  have rows : ∃ rs : List (List Nat × Addr), ks = rs.map (·.1) ∧ es.toList.map (·.key) = rs.map (fun p => Value.ref p.2) ∧ ∀ p ∈ rs, H p.2 = some (.tup (vns p.1)) := by
    have e0 : es.toList.map (·.key) = xs.map (fun x => Value.ref x.2.1) := by
      rw [hes, List.map_map]
      rfl
    rw [e0]
    clear e0 hes hnd hB h64 q z hd hdat hkis
    revert ks
    induction kt with
    | nil =>
      intro ks hks
      cases ks with
      | nil => exact ⟨[], rfl, rfl, fun _ h => nomatch h⟩
      | cons _ _ => cases hks
    | @cons p y ps ys hp t ih =>
      intro ks hks
      cases ks with
      | nil => cases hks
      | cons L ks =>
        rw [List.map_cons, List.map_cons] at hks
        injection hks with h1 h2
        obtain ⟨rs, e1, e2, e3⟩ := ih ks h2
        refine ⟨(L, y.2.1) :: rs, by rw [e1]; rfl, by rw [List.map_cons, e2]; rfl, fun x hx => ?_⟩
        rcases List.mem_cons.mp hx with e | hx
        · rw [e, ← kV_vns, ← h1]
          exact hp.2.1
        · exact e3 x hx
  obtain ⟨rs, e1, e2, e3⟩ := rows
  have hsz : es.size = rs.length := by
    have := congrArg List.length e2
    rw [List.length_map, List.length_map, Array.length_toList] at this
    exact this
  have hrl : rs.length < 64 := by rw [e1, List.length_map] at h64; exact h64
  refine Calls.call_function_entry PyProof.Rows.kind_sorted PyProof.Rows.plain_sorted PyProof.Rows.entry_sorted (PyProof.Rows.args_sorted1 _) ?_
  unfold Builtin.«sorted»
  refine wpAny_bind (m := checkCount "sorted" 1 1 _) (wpAny_pure ?_)
  refine wpAny_bind (PySem.W.kdu_collect (A := X.A.in1) (kdl_raw a es ep) (I.ok.hd hcalm) ⟨lo, o, ho, hx, hdat⟩ (by rw [hsz, sizeLine_eq]; omega) fun h' tk acc hk hacc => ?_)
  have eacc : acc.toList = rs.map (fun p => Value.ref p.2) := by
    rw [← e2]
    refine List.ext_getElem? fun j => ?_
    rw [List.getElem?_map]
    cases ej : acc.toList[j]? with
    | none =>
      have : es.toList[j]? = none := by
        rw [List.getElem?_eq_none_iff] at ej ⊢
        rw [Array.length_toList] at ej ⊢
        rw [← hacc.1]
        exact ej
      rw [this]
      rfl
    | some v =>
      obtain ⟨en, h1, h2⟩ := hacc.2 j v (by rw [← Array.getElem?_toList]; exact ej)
      rw [Array.getElem?_toList, h1, h2]
      rfl
  have hal : acc.toList.length = rs.length := by rw [eacc, List.length_map]
  have I1 : Inv X pins σ H { s with heap := h', toks := tk } := I.kept hk
  refine wpAny_bind (wpAny_newList ?_ (by rw [hal, sizeLine_eq]; omega))
  have hoL : (h'.push (seqObj "list" acc.toList.toArray 0)).get? h'.objs.size = some (seqObj "list" acc.toList.toArray 0) := Heap.get?_push_size _ rfl
  show wpAny _ _ _ _ _ { s with heap := h'.push (seqObj "list" acc.toList.toArray 0), toks := tk }
  have ti : ∀ p ∈ rs, TS.TupInts (h'.push (seqObj "list" acc.toList.toArray 0)) (.ref p.2) (p.1.map fun n : Nat => (n : Int)) := fun p hp => by
    have hq : SqT X.K H p.2 ((p.1.map fun n : Nat => (n : Int)).map V.int) := by rw [← vns_eq]; exact SqT.of (e3 p hp)
    exact (tupI_raw I1 hq).keeps fun b o e _ => Heap.get?_push_of_some _ e
  refine wpAny_bind (wpAny_holding (wpAny_call_entry PyProof.Rows.slot_list_sort ⟨_, hoL, rfl⟩ PyProof.Rows.entry_list_sort
    (TS.sort_tups (s := { s with heap := h'.push (seqObj "list" acc.toList.toArray 0), toks := tk }) (d := d) (B := 60) hoL (by rw [hal]; exact hrl) d1 (fun v hv => ?_) (fun v => TS.code 60 (TS.intsOf (h'.push (seqObj "list" acc.toList.toArray 0)) v)) (fun v hv ns t => by
      show TS.code 60 (TS.intsOf (h'.push (seqObj "list" acc.toList.toArray 0)) v) = _
      rw [t.ints]) fun out g1 g2 => ⟨_, rfl, ?_⟩) (PyProof.Rows.args_list_sort _)))
  · rw [eacc] at hv
    obtain ⟨p, hp, rfl⟩ := List.mem_map.mp hv
    obtain ⟨b1, b2⟩ := hB p.1 (by rw [e1]; exact List.mem_map_of_mem hp)
    refine ⟨_, ti p hp, by rw [List.length_map]; exact b1, fun m hm => ?_⟩
    obtain ⟨n, hn, rfl⟩ := List.mem_map.mp hm
    have := b2 n hn
    omega
  · obtain ⟨e', he'⟩ := PyProof.Rows.sortedHeap_at (vs := acc.toList) (out := out) hoL
    obtain ⟨rs', p', eo⟩ := perm_of_map (fun p : List Nat × Addr => Value.ref p.2) g1 rs eacc
    have eo2 : out.toList = (rs'.map (·.2)).map Value.ref := by rw [eo, List.map_map]; rfl
    have hlen : ((rs'.map (·.2)).map V.ref).length ≤ sizeLine := by
      rw [List.length_map, List.length_map, p'.length_eq, sizeLine_eq]
      omega
    have vr : Vals ((rs'.map (·.2)).map V.ref) out.toList := by
      rw [eo2]
      exact vals_refs _
    refine wpAny_pure ⟨_, rfl, .ref h'.objs.size, upd H h'.objs.size (.lst ((rs'.map (·.2)).map V.ref)), I1.laid (t' := tk) (fun b u e => ?_) (Nat.le_refl _)
      (show ObjOk X.prog X.w _ _ _ (.lst ((rs'.map (·.2)).map V.ref)) from ⟨hlen, out.toList, e', vr, by rw [Array.toArray_toList]; exact he'⟩), rfl, q (rs'.map (·.1)) (rs'.map (·.2)) _ ?_ ?_ (I1.hok.fresh (Nat.le_refl _)) ?_⟩
    · have hb : b < h'.objs.size := Heap.lt_size e
      rw [PyProof.Rows.sortedHeap_old (Nat.ne_of_lt hb) (by rw [size_push']; exact Nat.lt_succ_of_lt hb)]
      exact Heap.get?_push_of_some _ e
    · rw [e1]
      exact p'.map _
    · rw [eo, List.pairwise_map] at g2
      rw [List.pairwise_map]
      refine List.Pairwise.imp_of_mem (fun {x y} hx hy h => ?_) g2
      have hx' := (ti x (p'.mem_iff.mp hx)).ints
      have hy' := (ti y (p'.mem_iff.mp hy)).ints
      rw [hx', hy'] at h
      exact h
    · exact Paired.unzip fun p hp => e3 p (p'.mem_iff.mp hp)
end Spt

set_option Elab.async false
set_option linter.all false
/-! loads from grown trees -/
namespace Spt
/-! ### the order of codes -/
def cN : List Nat → Nat
  | [] => 0
  | x :: r => x * 60 ^ r.length + cN r
theorem cN_lt : ∀ {L : List Nat}, (∀ x ∈ L, x < 60) → cN L < 60 ^ L.length
  | [], _ => by decide
  | x :: r, h => by
    have ih := cN_lt (L := r) fun y hy => h y (List.mem_cons_of_mem _ hy)
    have hx := h x List.mem_cons_self
    have h1 : (x + 1) * 60 ^ r.length ≤ 60 * 60 ^ r.length := Nat.mul_le_mul_right _ hx
    rw [Nat.add_mul, Nat.one_mul] at h1
    show x * 60 ^ r.length + cN r < 60 ^ (r.length + 1)
    rw [Nat.pow_succ, Nat.mul_comm (60 ^ r.length) 60]
    omega
theorem cN_lex : ∀ {a b : List Nat}, a.length = b.length → (∀ x ∈ a, x < 60) → (∀ x ∈ b, x < 60) → cN a ≤ cN b → a ≠ b → lexLt a b = true
  | [], [], _, _, _, _, h => (h rfl).elim
  | [], _ :: _, h, _, _, _, _ => by cases h
  | _ :: _, [], h, _, _, _, _ => by cases h
  | x :: a, y :: b, hl, ha, hb, hc, hn => by
    have hl' : a.length = b.length := by simpa using hl
    have ha' : ∀ z ∈ a, z < 60 := fun z hz => ha z (List.mem_cons_of_mem _ hz)
    have hb' : ∀ z ∈ b, z < 60 := fun z hz => hb z (List.mem_cons_of_mem _ hz)
    have a1 := cN_lt ha'
    have b1 := cN_lt hb'
    have hc : x * 60 ^ a.length + cN a ≤ y * 60 ^ b.length + cN b := hc
    rw [hl'] at hc a1
    have key : x < y ∨ (x = y ∧ cN a ≤ cN b) := by
      rcases Nat.lt_trichotomy x y with h | h | h
      · exact .inl h
      · subst h
        exact .inr ⟨rfl, by omega⟩
      · have h1 : (y + 1) * 60 ^ b.length ≤ x * 60 ^ b.length := Nat.mul_le_mul_right _ h
        rw [Nat.add_mul, Nat.one_mul] at h1
        omega
    unfold lexLt
    rcases key with h | ⟨rfl, h⟩
    · rw [if_neg (Nat.ne_of_lt h)]; exact decide_eq_true h
    · have ih := cN_lex hl' ha' hb' h (fun z => hn (by rw [z]))
      simp [ih]
/-! ### sums over unlike ones -/
theorem sum_pick {α : Type} [DecidableEq α] (f : α → Nat) (x : α) : ∀ {ks : List α}, ks.Nodup → x ∈ ks → (ks.map fun L => (if L = x then 1 else 0) * f L).sum = f x
  | [], _, h => nomatch h
  | k :: ks, hn, h => by
    obtain ⟨h1, h2⟩ := List.nodup_cons.mp hn
    rw [List.map_cons, List.sum_cons]
    by_cases e : k = x
    · subst e
      have z : (ks.map fun L => (if L = k then 1 else 0) * f L) = ks.map fun _ => 0 := List.map_congr_left fun L hL => by
        rw [if_neg (show ¬ L = k from fun e => h1 (by rw [← e]; exact hL)), Nat.zero_mul]
      rw [z, if_pos rfl]
      have : (ks.map fun _ => 0).sum = 0 := by
        clear z h h1 h2 hn
        induction ks with
        | nil => rfl
        | cons a t ih => rw [List.map_cons, List.sum_cons, ih]
      omega
    · rw [if_neg e]
      have hx : x ∈ ks := by
        rcases List.mem_cons.mp h with z | z
        · exact (e z.symm).elim
        · exact z
      rw [sum_pick f x h2 hx]
      omega
theorem sum_add {α : Type} (f g : α → Nat) : ∀ ks : List α, (ks.map fun L => f L + g L).sum = (ks.map f).sum + (ks.map g).sum
  | [] => rfl
  | k :: ks => by
    rw [List.map_cons, List.map_cons, List.map_cons, List.sum_cons, List.sum_cons, List.sum_cons, sum_add f g ks]
    omega
theorem sum_count {α : Type} [DecidableEq α] [BEq α] [LawfulBEq α] (f : α → Nat) {ks : List α} (hn : ks.Nodup) : ∀ {Ls : List α}, (∀ L ∈ Ls, L ∈ ks) → (ks.map fun L => Ls.count L * f L).sum = (Ls.map f).sum
  | [], _ => by
    have : (ks.map fun L => ([] : List α).count L * f L) = ks.map fun _ => 0 := List.map_congr_left fun L _ => by rw [List.count_nil, Nat.zero_mul]
    rw [this]
    clear this hn
    induction ks with
    | nil => rfl
    | cons a t ih => rw [List.map_cons, List.sum_cons, ih (fun _ h => nomatch h)]; rfl
  | x :: Ls, h => by
    have ih := sum_count f hn (Ls := Ls) fun L hL => h L (List.mem_cons_of_mem _ hL)
    have e : (ks.map fun L => (x :: Ls).count L * f L) = ks.map fun L => Ls.count L * f L + (if L = x then 1 else 0) * f L := List.map_congr_left fun L _ => by
      rw [List.count_cons, Nat.add_mul]
      by_cases c : x = L
      · subst c; simp
      · simp [c, Ne.symm c]
    rw [e, sum_add, ih, sum_pick f x hn (h x List.mem_cons_self), List.map_cons, List.sum_cons]
    omega
/-! ### good loads -/
structure GoodLoads (n root : Nat) (es : List (Nat × Nat)) (ws : List Nat) (c : Nat) (rows : List (Nat × List Nat)) : Prop where
  tree : ∀ r ∈ rows, IsTree n root es r.2 ∧ 1 ≤ r.1 ∧ r.1 ≤ c
  asc : (rows.map (·.2)).Pairwise fun a b => lexLt a b = true
  sum : (rows.map (·.1)).sum = c
  fits : ∀ i w, ws[i]? = some w → (rows.map fun r => if i ∈ r.2 then r.1 else 0).sum ≤ w
theorem tree_of {n root : Nat} {es : List (Nat × Nat)} {T L : List Nat} (g : Grown es root T (2 ^ n - 1)) (p : L.Perm T) (s : L.Pairwise (· ≤ ·)) : IsTree n root es L :=
  ⟨⟨T, g, p⟩, sorted_strict s (p.nodup_iff.mpr g.nodup)⟩
theorem perm_sum {l m : List Nat} (h : l.Perm m) : l.sum = m.sum := by
  induction h with
  | nil => rfl
  | cons x _ ih => rw [List.sum_cons, List.sum_cons, ih]
  | swap x y t => rw [List.sum_cons, List.sum_cons, List.sum_cons, List.sum_cons]; omega
  | trans _ _ ih1 ih2 => rw [ih1, ih2]
theorem good_of {n root c : Nat} {es : List (Nat × Nat)} {ws us' : List Nat} {Ts Ls ks : List (List Nat)} (hc : Ls.length = c) (tr : ∀ L ∈ Ls, IsTree n root es L)
    (hlen : es.length ≤ 60) (hr : root < n) (hl : Links n es) (hsum : ∀ i, (Ls.map (·.count i)).sum = useSum Ts i) (hws : us'.length = ws.length) (tal : ∀ i w u, ws[i]? = some w → us'[i]? = some u → w = u + useSum Ts i)
    (hn : ks.Nodup) (hm : ∀ L, L ∈ ks ↔ L ∈ Ls) (hs : ks.Pairwise fun x y => cN x ≤ cN y) : GoodLoads n root es ws c (ks.map fun L => (Ls.count L, L)) := by
  have trk : ∀ L ∈ ks, IsTree n root es L := fun L hL => tr L ((hm L).mp hL)
  have b60 : ∀ L ∈ ks, ∀ x ∈ L, x < 60 := fun L hL x hx => Nat.lt_of_lt_of_le ((trk L hL).lt x hx) hlen
  refine ⟨fun r hr => ?_, ?_, ?_, fun i w hw => ?_⟩
  · obtain ⟨L, hL, rfl⟩ := List.mem_map.mp hr
    refine ⟨trk L hL, List.count_pos_iff.mpr ((hm L).mp hL), ?_⟩
    rw [← hc]
    exact List.count_le_length
  · rw [List.map_map]
    have e : ((fun r : Nat × List Nat => r.2) ∘ fun L => (Ls.count L, L)) = id := rfl
    rw [e, List.map_id]
    have q := hs.and hn
    refine List.Pairwise.imp_of_mem (fun {a b} ha hb h => ?_) q
    have la := (trk a ha).size hr hl
    have lb := (trk b hb).size hr hl
    exact cN_lex (by omega) (b60 a ha) (b60 b hb) h.1 h.2
  · rw [List.map_map]
    have e := sum_count (fun _ : List Nat => 1) hn (Ls := Ls) fun L hL => (hm L).mpr hL
    have e2 : (ks.map fun L => Ls.count L * 1) = ks.map ((fun r : Nat × List Nat => r.1) ∘ fun L => (Ls.count L, L)) := List.map_congr_left fun L _ => Nat.mul_one _
    rw [← e2, e]
    clear e e2
    rw [← hc]
    clear hc tr hsum hm
    induction Ls with
    | nil => rfl
    | cons a t ih => rw [List.map_cons, List.sum_cons, ih, List.length_cons]; omega
  · rw [List.map_map]
    have e := sum_count (fun L : List Nat => L.count i) hn (Ls := Ls) fun L hL => (hm L).mpr hL
    have e2 : (ks.map fun L => Ls.count L * L.count i) = ks.map ((fun r : Nat × List Nat => if i ∈ r.2 then r.1 else 0) ∘ fun L => (Ls.count L, L)) := List.map_congr_left fun L hL => by
      show Ls.count L * L.count i = if i ∈ L then Ls.count L else 0
      have nd : L.Nodup := (trk L hL).2.imp fun h => Nat.ne_of_lt h
      by_cases c : i ∈ L
      · rw [if_pos c, nd.count, if_pos c, Nat.mul_one]
      · rw [if_neg c, List.count_eq_zero.mpr c, Nat.mul_zero]
    rw [← e2, e, hsum i]
    have hi := (List.getElem?_eq_some_iff.mp hw).1
    have := tal i w us'[i] hw (List.getElem?_eq_getElem (by omega))
    omega
end Spt

set_option Elab.async false
set_option linter.all false
/-! sides, widths, needs -/
namespace Spt
/-- the widths of the links that enter, one by one -/
def widthM (es : List (Nat × Nat)) (ws : List Nat) (f : Nat × Nat → Bool) : Nat := (((List.range es.length).filter fun i => f (es.getD i (0, 0))).map fun i => ws.getD i 0).sum
theorem filter_map_len {α : Type} (p : α → Bool) (l : List α) : (l.filter p).length ≤ l.length := List.length_filter_le _ _
theorem widthM_snoc (e : Nat × Nat) (u : Nat) (f : Nat × Nat → Bool) (es : List (Nat × Nat)) (us : List Nat) (h : es.length = us.length) : widthM (es ++ [e]) (us ++ [u]) f = widthM es us f + if f e then u else 0 := by
  unfold widthM
  rw [List.length_append, List.length_singleton, List.range_succ, List.filter_append, List.map_append, List.sum_append]
  have e1 : ((List.range es.length).filter fun i => f ((es ++ [e]).getD i (0, 0))) = (List.range es.length).filter fun i => f (es.getD i (0, 0)) := List.filter_congr fun i hi => by
    rw [List.getD_eq_getElem?_getD, List.getElem?_append_left (List.mem_range.mp hi), ← List.getD_eq_getElem?_getD]
  rw [e1]
  have e2 : (((List.range es.length).filter fun i => f (es.getD i (0, 0))).map fun i => (us ++ [u]).getD i 0) = ((List.range es.length).filter fun i => f (es.getD i (0, 0))).map fun i => us.getD i 0 := List.map_congr_left fun i hi => by
    have := List.mem_range.mp (List.mem_filter.mp hi).1
    rw [List.getD_eq_getElem?_getD, List.getElem?_append_left (by omega), ← List.getD_eq_getElem?_getD]
  rw [e2]
  congr 1
  have e3 : (es ++ [e]).getD es.length (0, 0) = e := by rw [List.getD_eq_getElem?_getD, List.getElem?_append_right (Nat.le_refl _)]; simp
  have e4 : (us ++ [u]).getD es.length 0 = u := by rw [h, List.getD_eq_getElem?_getD, List.getElem?_append_right (Nat.le_refl _)]; simp
  rw [List.filter_cons, e3]
  cases f e with
  | true =>
    simp only [if_true, List.filter_nil, List.map_cons, List.map_nil, List.sum_cons, List.sum_nil]
    rw [e4, Nat.add_zero]
  | false => simp
theorem ent_width (m : Nat) : ∀ (k : Nat) (es : List (Nat × Nat)) (us : List Nat), es.length = k → us.length = k → ent es us m = (widthM es us fun e => enters e m : Nat)
  | 0, es, us, h1, h2 => by
    have a := List.length_eq_zero_iff.mp h1
    have b := List.length_eq_zero_iff.mp h2
    subst a; subst b
    rfl
  | k + 1, es, us, h1, h2 => by
    have ne1 : es ≠ [] := fun z => by rw [z] at h1; cases h1
    have ne2 : us ≠ [] := fun z => by rw [z] at h2; cases h2
    have d1 := List.dropLast_concat_getLast ne1
    have d2 := List.dropLast_concat_getLast ne2
    have l1 : es.dropLast.length = k := by rw [List.length_dropLast]; omega
    have l2 : us.dropLast.length = k := by rw [List.length_dropLast]; omega
    rw [← d1, ← d2, ent_snoc m _ _ _ _ (l1.trans l2.symm), widthM_snoc _ _ _ _ _ (l1.trans l2.symm), ent_width m k _ _ l1 l2]
    cases enters (es.getLast ne1) m <;> simp
theorem need_rep (c root m : Nat) : need (List.replicate c (2 ^ root)) m = if m.testBit root then 0 else (c : Int) := by
  have key : (2 ^ root &&& m == 0) = !m.testBit root := by
    rw [Bool.eq_iff_iff, beq_iff_eq, Bool.not_eq_true']
    constructor
    · intro h
      cases e : m.testBit root with
      | false => rfl
      | true => exact (and_ne_zero_of (i := root) (by rw [Nat.testBit_two_pow]; simp) e h).elim
    · intro h
      refine and_zero_of fun i h1 h2 => ?_
      rw [Nat.testBit_two_pow] at h1
      rw [← of_decide_eq_true h1, h] at h2
      cases h2
  unfold need
  rw [List.filter_replicate, key]
  cases m.testBit root <;> simp
end Spt

set_option Elab.async false
set_option linter.all false
set_option maxRecDepth 100000
set_option maxHeartbeats 4000000
/-! growing(); Barred.__init__; sides and lots -/
namespace Spt
open PySem PySem.Spec PyProof.Rows L2
/-! ### sides and lots -/
theorem enters_lot {n : Nat} {es : List (Nat × Nat)} (n2 : 2 ≤ n) (n10 : n ≤ 10) (hes : Links n es) {l : List Nat} (hl : l ∈ lots n) {e : Nat × Nat} (he : e ∈ es) : enters e (maskOf l) = entersL e l := by
  have q := hes e he
  unfold enters entersL
  rw [lots_bit n2 n10 hl q.1, lots_bit n2 n10 hl q.2.1, Bool.and_comm]
theorem ent_lot {n : Nat} {es : List (Nat × Nat)} {ws : List Nat} (n2 : 2 ≤ n) (n10 : n ≤ 10) (hes : Links n es) {l : List Nat} (hl : l ∈ lots n) (hw : ws.length = es.length) : ent es ws (maskOf l) = (widthInto es ws l : Nat) := by
  rw [ent_width (maskOf l) es.length es ws rfl hw]
  unfold widthM widthInto enterOf linkAt
  congr 3
  refine List.filter_congr fun i hi => ?_
  have hil := List.mem_range.mp hi
  refine enters_lot n2 n10 hes hl ?_
  rw [List.getD_eq_getElem?_getD, List.getElem?_eq_getElem hil]
  exact List.getElem_mem hil
theorem need_lot {n root c : Nat} (n2 : 2 ≤ n) (n10 : n ≤ 10) (hr : root < n) {l : List Nat} (hl : l ∈ lots n) : need (List.replicate c (2 ^ root)) (maskOf l) = if root ∈ l then 0 else (c : Int) := by
  rw [need_rep, lots_bit n2 n10 hl hr]
  by_cases h : root ∈ l
  · rw [decide_eq_true h, if_pos rfl, if_pos h]
  · rw [decide_eq_false h, if_neg Bool.false_ne_true, if_neg h]
theorem holds_of {n root c : Nat} {es : List (Nat × Nat)} {ws : List Nat} (n2 : 2 ≤ n) (n10 : n ≤ 10) (hr : root < n) (hes : Links n es) (hw : ws.length = es.length) (h : ∀ l ∈ sides n root, c ≤ widthInto es ws l) : Holds n es ws (List.replicate c (2 ^ root)) := by
  intro m m0 mn
  have hm := masks_all n2 n10 m0 mn
  obtain ⟨l, hl, rfl⟩ := List.mem_map.mp hm
  rw [need_lot n2 n10 hr hl, ent_lot n2 n10 hes hl hw]
  by_cases hroot : root ∈ l
  · rw [if_pos hroot]; omega
  · rw [if_neg hroot]
    have := h l (List.mem_filter.mpr ⟨hl, by rw [decide_eq_false hroot]; rfl⟩)
    omega
section
variable {P : Program} {w : World} {K : PySem.W.Frag} {mg : Str → Option Value} {base : Heap}
variable {X : Cx} {k : Nat} {f C : Addr} {ps : List Str} {sp : Sp} {x : Str} {p pos : Pos} {e : Expr} {es : List Expr} {t : TA}
/-- C(..) -/
theorem mkc (F : FnK X.prog X.w X.K X.mg X.base CX0 k f ps sp) (M : Mk X.K C f) (hr : Room (k + 1) X.A) (hm : X.mg x = some (.ref C)) (ha : PA X (e :: es) t) (hg : Gl X x := by rfl) (hdb : (x == ("__debug__" : Str)) = false := by decide)
    (he : starEach (e :: es) X.env = (false, eval e X.env) :: starEach es X.env := by rfl) (hpl : (backTo pos (starEach es X.env)).any (·.1) = false := by rfl) : PE X (.Call (.Name x p) (e :: es) [] pos) (tMake C sp [] E0 t) := by
  obtain ⟨fd, F, b, kp⟩ := F
  exact pe_make M F hr hg hm b .nil pass0 ha hdb he hpl
end
section
variable {P : Program} {w : World} {K : PySem.W.Frag} {mg : Str → Option Value} {base : Heap}
/-! growing -/
theorem scGrowing : FnScope ["net", "uses", "heard"] ["net", "uses", "heard"] (defScope sPGrowing) := ⟨rfl, rfl, rfl, by decide +kernel, rfl, by decide +kernel, by decide +kernel⟩
def spGrowing (K : PySem.W.Frag) : Sp := fun vs H Q _ => ∃ (nt lt d0 h0 : Addr) (n root k : Nat) (es : List (Nat × Nat)) (us : List Nat) (as : List Addr), vs = [.ref nt, .ref d0, .ref h0] ∧ NetO K H nt n root lt ∧ LinksO H lt es ∧ H d0 = some (.dK (enK 0 (vns us))) ∧ us.length = es.length ∧
  H h0 = some (.lst (as.map V.ref)) ∧ (∀ a ∈ as, H a = some (.tup [vn root])) ∧ as.length = k ∧ k ≤ 100 ∧ root < n ∧ 2 ≤ n ∧ n ≤ 10 ∧ Links n es ∧ es.length ≤ 60 ∧
  ∀ H' g A, Same H H' → (∀ a ∈ A.mu, H a = none) → GS K H' g A n es us (List.replicate k (2 ^ root)) (List.replicate k []) → Q (.ref g) H'
theorem okGrowing (T : Txt K mg) : FnK P w K mg base CX0 4 (He.ga K "growing") ["net", "uses", "heard"] (spGrowing K) := by
  refine FnK.of T.d_PGrowing scGrowing (fun _ _ _ _ _ _ us hl => match us, hl with | [_, _, _], _ => rfl) (fun vs H Q E h => ?_) (fun cdv A outer s H vs Q E hr h => ?_)
  · obtain ⟨nt, lt, d0, h0, n, root, k, es, us, as, rfl, _⟩ := h
    rfl
  · obtain ⟨nt, lt, d0, h0, n, root, k, es, us, as, rfl, hg, hlt, hd0, hul, hh0, has, hk, hk100, hroot, n2, n10, hes, l60, kk⟩ := h
    obtain ⟨dx, fs, hg', f1, f2, f3⟩ := id hg
    refine ⟨_, pss_one (ps_ret (mkc (okGInit T) T.k_Growing hr T.g_Growing (pa_cons (pe_fld (pv 0) rfl) (pa_cons (pe_fld (pv 0) rfl) (pa_cons (pv 1) (pa_cons (pv 2) pa_nil)))))), ?_⟩
    refine ⟨_, rfl, nt, _, dx, fs, _, rfl, hg', T.c_Net, T.n_many, f1, _, rfl, nt, _, dx, fs, _, rfl, hg', T.c_Net, T.n_links, f3, _, rfl, _, rfl, fun x dx' hx hdx hne => ?_⟩
    have s1 : Same H (upd (upd H dx' (.own x)) x (.ins (He.ga K "Growing") dx' [])) := fun b o q => by
      rw [upd_ne (ne_of_none q hx), upd_ne (ne_of_none q hdx)]; exact q
    refine ⟨x, dx', lt, d0, h0, n, root, k, es, us, as, rfl, upd_same, hlt.same s1, s1 _ _ hd0, hul, s1 _ _ hh0, fun a ha => s1 _ _ (has a ha), hk, hk100, hroot, n2, n10, hes, l60, fun H' A' eb mu G => ⟨rfl, ?_⟩⟩
    refine kk H' x A' (fun b o q => eb b o (ne_of_none q hx) (s1 b o q)) (fun a ha => ?_) G
    have := mu a ha
    cases e : H a with
    | none => rfl
    | some o => rw [s1 _ _ e] at this; cases this
/-! Barred.__init__ -/
theorem scBarInit : FnScope ["self", "side"] ["self", "side"] (defScope sCBarredInit) := ⟨rfl, rfl, rfl, by decide +kernel, rfl, by decide +kernel, by decide +kernel⟩
def spBarInit (K : PySem.W.Frag) : Sp := fun vs H Q _ => ∃ (x : Addr) (y : V), vs = [.ref x, y] ∧ H x = some (exo x (He.ga K "Barred") none) ∧ ∀ dx, H dx = none → dx ≠ x → Q .non (upd (upd H dx (exd dx [("side", y)])) x (exo x (He.ga K "Barred") (some dx)))
theorem okBarInit (T : Txt K mg) : FnK P w K mg base CX0 1 (He.ma K (He.ga K "Barred") "__init__") ["self", "side"] (spBarInit K) := by
  refine FnK.of T.d_CBarredInit scBarInit (fun _ _ _ _ _ _ us hl => match us, hl with | [_, _], _ => rfl) (fun vs H Q E h => ?_) (fun cdv A outer s H vs Q E hr h => ?_)
  · obtain ⟨x, y, rfl, _⟩ := h
    rfl
  · obtain ⟨x, y, rfl, hx, k⟩ := h
    refine ⟨_, pss_one (ps_ost (pv 0) (pv 1)), ?_⟩
    exact ⟨_, rfl, _, rfl, x, _, rfl, T.ex.oex, T.ex.noSide, .inl ⟨hx, fun dx n ne => k dx n ne⟩⟩
end
end Spt

set_option Elab.async false
set_option linter.all false
set_option maxRecDepth 100000
set_option maxHeartbeats 8000000
/-! rates.py: loads -/
namespace Spt
open PySem PySem.Spec PyProof.Rows L2
theorem GS.mu_some {K : PySem.W.Frag} {H : Hp} {g : Addr} {A : GA} {n : Nat} {es us hs Ts} (G : GS K H g A n es us hs Ts) : ∀ a ∈ A.mu, ∃ o, H a = some o := fun a ha => by
  unfold GA.mu at ha
  simp only [List.mem_cons] at ha
  rcases ha with rfl | rfl | rfl | rfl | ha
  · exact ⟨_, G.du⟩
  · exact ⟨_, G.lh⟩
  · exact ⟨_, G.le⟩
  · exact ⟨_, G.ln⟩
  · obtain ⟨j, hj⟩ := List.getElem?_of_mem ha
    obtain ⟨_, _, q⟩ := Paired.get G.ps hj
    exact ⟨_, q⟩
/-- pairs (times, tree) -/
def RowsO (H : Hp) (ras : List Addr) (rows : List (Nat × List Nat)) : Prop := Paired (fun (ra : Addr) (r : Nat × List Nat) => ∃ ta, H ra = some (.tup [vn r.1, .ref ta]) ∧ H ta = some (.tup (vns r.2))) ras rows
def LoadsO (H : Hp) (t : Addr) (rows : List (Nat × List Nat)) : Prop := ∃ ras, H t = some (.tup (ras.map V.ref)) ∧ RowsO H ras rows
theorem RowsO.same {H H' : Hp} {ras rows} (s : Same H H') (h : RowsO H ras rows) : RowsO H' ras rows := Paired.imp (F := fun (ra : Addr) (r : Nat × List Nat) => ∃ ta, H ra = some (.tup [vn r.1, .ref ta]) ∧ H ta = some (.tup (vns r.2))) (fun _ _ ⟨ta, a, b⟩ => ⟨ta, s _ _ a, s _ _ b⟩) h
theorem LoadsO.same {H H' : Hp} {t : Addr} {rows} (s : Same H H') (h : LoadsO H t rows) : LoadsO H' t rows := by
  obtain ⟨ras, h1, h2⟩ := h
  exact ⟨ras, s _ _ h1, h2.same s⟩
/-- a tally -/
structure TalI (kvs : List (List Key × V)) (Ls : List (List Nat)) : Prop where
  keys : ∃ ks : List (List Nat), kvs.map (·.1) = ks.map (·.map numK) ∧ ks.Nodup ∧ (∀ L, L ∈ ks ↔ L ∈ Ls)
  val : ∀ L, valV kvs (L.map numK) = if L ∈ Ls then some (vn (Ls.count L)) else none
theorem TalI.nil : TalI [] [] := ⟨⟨[], rfl, List.nodup_nil, fun _ => Iff.rfl⟩, fun L => by simp [valV]⟩
theorem TalI.put {kvs : List (List Key × V)} {Ls : List (List Nat)} (t : TalI kvs Ls) (L : List Nat) : TalI (putK kvs (L.map numK) (vn (Ls.count L + 1))) (Ls ++ [L]) := by
  obtain ⟨⟨ks, e1, e2, e3⟩, hv⟩ := t
  refine ⟨?_, fun M => ?_⟩
  · unfold putK
    rw [valV_any, hv L]
    by_cases c : L ∈ Ls
    · rw [if_pos c, Option.isSome_some, if_pos rfl]
      refine ⟨ks, ?_, e2, fun M => ?_⟩
      · rw [← e1, List.map_map]
        refine List.map_congr_left fun kv _ => ?_
        show (if kv.1 = L.map numK then (kv.1, vn (Ls.count L + 1)) else kv).1 = kv.1
        split <;> rfl
      · rw [e3 M, List.mem_append, List.mem_singleton]
        exact ⟨.inl, fun h => h.elim id fun h => h ▸ c⟩
    · rw [if_neg c]
      refine ⟨ks ++ [L], ?_, ?_, fun M => ?_⟩
      · rw [if_neg (by decide), List.map_append, List.map_append, e1]
        rfl
      · refine List.nodup_append.mpr ⟨e2, by simp, fun x hx y hy z => ?_⟩
        rw [List.mem_singleton.mp hy] at z
        exact c ((e3 L).mp (z ▸ hx))
      · rw [List.mem_append, List.mem_append, e3 M]
  · rw [valV_put, hv M]
    by_cases c : M = L
    · subst c
      rw [if_pos rfl, if_pos (List.mem_append_right _ List.mem_cons_self), List.count_append]
      have : List.count M [M] = 1 := by simp
      rw [this]
    · rw [if_neg (fun z => c (numK_inj' z)), List.count_append]
      have h0 : List.count M [L] = 0 := by
        rw [List.count_eq_zero]
        exact fun z => c (List.mem_singleton.mp z)
      rw [h0, Nat.add_zero]
      by_cases d : M ∈ Ls
      · rw [if_pos d, if_pos (List.mem_append_left _ d)]
      · rw [if_neg d, if_neg]
        intro z
        rcases List.mem_append.mp z with z | z
        · exact d z
        · exact c (List.mem_singleton.mp z)
theorem code60_cN (L : List Nat) : code60 L = (cN L : Nat) := by
  unfold code60
  induction L with
  | nil => rfl
  | cons x r ih =>
    show (x : Int) * 60 ^ (r.map fun n : Nat => (n : Int)).length + TS.code 60 (r.map fun n : Nat => (n : Int)) = ((x * 60 ^ r.length + cN r : Nat) : Int)
    rw [ih, List.length_map, Int.natCast_add, Int.natCast_mul, Int.natCast_pow]
    rfl
theorem sorted_sum {Ts Ls : List (List Nat)} (h : SortedOf Ts Ls) (i : Nat) : (Ls.map (·.count i)).sum = useSum Ts i := by
  unfold useSum
  induction h with
  | nil => rfl
  | cons h _ ih => rw [List.map_cons, List.map_cons, List.sum_cons, List.sum_cons, ih, h.1.count_eq]
theorem sorted_trees {n root : Nat} {es : List (Nat × Nat)} : ∀ {Ts Ls : List (List Nat)}, SortedOf Ts Ls → (∀ T ∈ Ts, Grown es root T (2 ^ n - 1)) → ∀ L ∈ Ls, IsTree n root es L
  | _, _, .nil, _, L, h => nomatch h
  | _, _, .cons q t, g, L, h => by
    rcases List.mem_cons.mp h with rfl | h
    · exact tree_of (g _ List.mem_cons_self) q.1 q.2
    · exact sorted_trees t (fun T hT => g T (List.mem_cons_of_mem _ hT)) L h
section
variable {P : Program} {w : World} {K : PySem.W.Frag} {mg : Str → Option Value} {base : Heap}
theorem scLoads : FnScope ["net", "widths", "many", "found", "tree", "side", "times"] ["net", "widths", "many"] (defScope sPLoads) := ⟨rfl, rfl, rfl, by decide +kernel, rfl, by decide +kernel, by decide +kernel⟩
def spLoads (K : PySem.W.Frag) : Sp := fun vs H Q E => ∃ (g lt wt : Addr) (n root c : Nat) (es : List (Nat × Nat)) (ws : List Nat), vs = [.ref g, .ref wt, vn c] ∧ NetO K H g n root lt ∧ LinksO H lt es ∧ WidthsO H wt ws es ∧ es.length ≤ 60 ∧ 2 ≤ n ∧ n ≤ 10 ∧ root < n ∧ Links n es ∧ c ≤ 40 ∧
  ((∀ l ∈ sides n root, c ≤ widthInto es ws l) → ∀ H' t rows, Same H H' → LoadsO H' t rows → GoodLoads n root es ws c rows → Q (.ref t) H') ∧
  ∀ pre l post, sides n root = pre ++ l :: post → (∀ l' ∈ pre, c ≤ widthInto es ws l') → widthInto es ws l < c → ∀ H' d a, Same H H' → H' d = some (.xd [("side", .ref a)]) → H' a = some (.tup (vns l)) → E (.ref (He.ga K "Barred")) (some d) H'
theorem okLoads (T : Txt K mg) : FnK P w K mg base (L2.CX P w) 5 (He.ga K "loads") ["net", "widths", "many"] (spLoads K) := by
  refine FnK.ofX T.d_PLoads scLoads (fun _ _ _ _ _ _ us hl => match us, hl with | [_, _, _], _ => rfl) (fun vs H Q E h => ?_) (fun cdv A outer s H vs Q E hr h => ?_)
  · obtain ⟨g, lt, wt, n, root, c, es, ws, rfl, _⟩ := h
    rfl
  · obtain ⟨g, lt, wt, n, root, c, es, ws, rfl, hg, hlt, hw, l60, n2, n10, hroot, hes, c40, k1, k2⟩ := h
    obtain ⟨dx, fs, hg', f1, f2, f3⟩ := id hg
    obtain ⟨fdB, FB, bB, kpB⟩ := okBarInit (P := P) (w := w) (base := base) T
    refine ⟨_, pss_cons (ps_expr (cl ((okCheckWidths T).mono (by decide)) hr T.g_check_widths (a2 (pv 0) (pv 1))))
      (pss_cons (ps_expr (cl ((okCheckNumber T).mono (by decide)) hr T.g_check_number (a3 (pv 2) pe_int (gint T.i_MOST_RATE))))
      (pss_cons (ps_set (i := 3) scLoads.nd rfl (.inl rfl) (cl (okGrowing T) hr T.g_growing (a3 (pv 0) (pe_dictEnum rfl rfl T.f_dict rfl T.f_enumerate (a1 (pv 1))) (lcn 4 (pi_range1 rfl T.f_range (a1 (pv 2))) (fun _ _ _ _ _ => pe_tup (a1 (fldK K (pv 0)))) scLoads))))
      (pss_cons (ps_set (i := 5) scLoads.nd rfl (.inl rfl) (clm0 ((okLacking T).mono (by decide)) hr T.c_Growing T.m_lacking (pv 3)))
      (pss_cons (ps_if (pt_cmp (pc_notN (pv 5))) (pss_one (ps_raise rfl (takes_of rfl rfl rfl rfl) (pmk_oex T.ex.oex T.ex.init T.ex.initT FB (hr.mono (by decide)) bB .nil pass0 rfl T.g_Barred (a1 (pv 5))))) pss_nil)
      (PSs.nox (pss_cons (ps_set (i := 6) scLoads.nd rfl (.inr rfl) pe_dnewT)
      (pss_cons (ps_for PassesOwn.never rfl (pi_tup (clm0 (okGrown T) hr T.c_Growing T.m_grown (pv 3))) (pg_name (i := 4) scLoads.nd rfl (.inl rfl))
        (pss_one (ps_dput (Room.u1 hr) (pv 6) (pv 4) (pe_op op_add (pe_dget2 (Room.u1 hr) (pv 6) (pv 4) pe_int ⟨rfl, rfl, rfl, rfl⟩) pe_int) rfl)))
      (pss_one (ps_ret (ct call_tuple_of T.f_tuple (a1 (lcn 4 (pi_list (cb (cr_sortedDT rfl) T.f_sorted (a1 (pv 6)))) (fun _ _ _ _ _ => pe_tup (a2 (pe_dget (Room.u1 hr) (pv 6) (pv 4) (fun _ _ => rfl)) (pv 4))) scLoads)))))))))))), ?_⟩
    refine ⟨_, rfl, _, rfl, g, lt, wt, n, root, es, ws, rfl, hg, hlt, hw, by omega, fun H1 s1 => ?_⟩
    refine ⟨_, rfl, _, _, _, rfl, by omega, by omega, ?_⟩
    -- growing
    refine ⟨_, rfl, _, rfl, wt, _, rfl, SqT.of (s1 _ _ hw.1), fun d0 nd0 => ?_⟩
    have s2 : Same H1 (upd H1 d0 (.dK (enK 0 (vns ws)))) := same_new nd0
    have hd0 : upd H1 d0 (.dK (enK 0 (vns ws))) d0 = some (.dK (enK 0 (vns ws))) := upd_same
    revert s2 hd0
    generalize upd H1 d0 (.dK (enK 0 (vns ws))) = H2
    intro s2 hd0
    have s02 := s1.trans s2
    refine ⟨_, rfl, (c : Int), rfl, by omega, by omega, fun D hD => ?_⟩
    rw [Int.toNat_natCast]
    refine comp_range (lo := 0) (n := c) (fun _ => true) (fun H' _ y => ∃ a, y = .ref a ∧ a ≠ D ∧ H' a = some (.tup [vn root])) hD (by rw [sizeLine_eq]; omega) (fun Ha Hb x y eb h => ?_) (fun _ => rfl) (fun x _ H3 s3 Qb q => q H3 (Same.refl _)) (fun x hx _ H3 s3 hyD Qv q => ?_) (fun H3 ys s3 hD3 r => ?_)
    · obtain ⟨a, e1, e2, e3⟩ := h
      exact ⟨a, e1, e2, eb _ _ e2 e3⟩
    · refine ⟨_, rfl, g, _, dx, fs, _, rfl, s3 _ _ (s02 _ _ hg'), T.c_Net, T.n_root, f2, by show 1 ≤ sizeLine; rw [sizeLine_eq]; decide, fun a na => ?_⟩
      obtain ⟨yD, hyD⟩ := hyD
      exact q (.ref a) _ (same_new na) ⟨a, rfl, Ne.symm (ne_of_none hyD na), upd_same⟩
    have keyA : ∀ {l : List Nat} {ys : List V}, Paired (fun (_ : Nat) (y : V) => ∃ a, y = .ref a ∧ a ≠ D ∧ H3 a = some (.tup [vn root])) l ys → ∃ as : List Addr, ys = as.map V.ref ∧ (∀ a ∈ as, H3 a = some (.tup [vn root])) ∧ as.length = l.length := by
      intro l ys h
      induction h with
      | nil => exact ⟨[], rfl, fun _ h => (nomatch h), rfl⟩
      | cons h _ ih =>
        obtain ⟨a, rfl, _, h3⟩ := h
        obtain ⟨as, rfl, i1, i2⟩ := ih
        exact ⟨a :: as, rfl, fun b hb => by
          rcases List.mem_cons.mp hb with rfl | hb
          · exact h3
          · exact i1 b hb, by rw [List.length_cons, List.length_cons, i2]⟩
    rw [List.filter_eq_self.mpr (fun _ _ => rfl)] at r
    obtain ⟨as, rfl, has, hasl⟩ := keyA r
    rw [List.length_range] at hasl
    have s03 := s02.trans s3
    refine ⟨g, lt, d0, D, n, root, c, es, ws, as, rfl, hg.same s03, hlt.same s03, s3 _ _ hd0, hw.2.1, hD3, has, hasl, by omega, hroot, n2, n10, hes, l60, fun H4 gg A s4 mu4 G => ?_⟩
    have s04 := s03.trans s4
    -- lacking
    obtain ⟨dx4, fs4, hg4, F4⟩ := G.ins
    refine ⟨_, rfl, gg, dx4, fs4, rfl, hg4, F4.m5, gg, dx4, A.ll, A.le, A.ln, fs4, A.las, _, _, rfl, hg4, F4.lots, F4.entered, F4.needed, G.ll, G.le, G.ln, ?_, ?_, ?_, ?_⟩
    · rw [List.length_map]
      have := Paired.len G.las
      unfold masks
      rw [List.length_map]
      exact this
    · rw [List.length_map]
      have := Paired.len G.las
      unfold masks
      rw [List.length_map]
      exact this
    · -- nothing lacks
      intro H5 s5 nl
      have s05 := s04.trans s5
      have hlas : A.las.length = (lots n).length := (Paired.len G.las).symm
      have hall : ∀ l ∈ sides n root, c ≤ widthInto es ws l := fun l hl => by
        obtain ⟨hl1, hl2⟩ := List.mem_filter.mp hl
        rw [Bool.not_eq_true', decide_eq_false_iff_not] at hl2
        obtain ⟨j, hj⟩ := List.getElem?_of_mem hl1
        have hjl := (List.getElem?_eq_some_iff.mp hj).1
        have hm : (masks n)[j]? = some (maskOf l) := by unfold masks; rw [List.getElem?_map, hj]; rfl
        have := nl j (ent es ws (maskOf l)) (need (List.replicate c (2 ^ root)) (maskOf l)) (by omega) (by rw [List.getElem?_map, hm]; rfl) (by rw [List.getElem?_map, hm]; rfl)
        rw [ent_lot n2 n10 hes hl1 hw.2.1, need_lot n2 n10 hroot hl1, if_neg hl2] at this
        omega
      have GI : GInv n es root ws ws (List.replicate c (2 ^ root)) (List.replicate c []) := GInv.init (holds_of n2 n10 hroot hes hw.2.1 hall)
      refine ⟨_, rfl, false, rfl, ?_⟩
      refine iteF ?_
      -- times
      intro td ntd
      have G5 := G.same s5
      have s6 : Same H5 (upd H5 td (.dT [])) := same_new ntd
      have htd : upd H5 td (.dT []) td = some (.dT []) := upd_same
      revert s6 htd
      generalize upd H5 td (.dT []) = H6
      intro s6 htd
      have G6 := G5.same s6
      obtain ⟨dx6, fs6, hg6, F6⟩ := G6.ins
      refine ⟨_, rfl, gg, dx6, fs6, rfl, hg6, F6.m6, gg, A, n, root, es, ws, ws, _, _, rfl, G6, GI, hroot, fun H7 t as7 Ls us' Ts' f7 ht7 lo7 so7 GI7 => ?_⟩
      have tdmu : td ∉ A.mu := fun z => by
        obtain ⟨o, q⟩ := GS.mu_some (K := K) G5 td z
        rw [q] at ntd
        cases ntd
      have htd7 := f7 _ _ tdmu htd
      have s07 : Same H H7 := fun b o q => f7 b o (fun z => by
        have hn := mu4 b z
        rw [s03 _ _ q] at hn
        cases hn) (s6 _ _ (s05 _ _ q))
      rw [List.length_replicate] at GI7
      have Tfull : ∀ T ∈ Ts', Grown es root T (2 ^ n - 1) := fun T hT => by
        obtain ⟨j, hj⟩ := List.getElem?_of_mem hT
        have hjl := (List.getElem?_eq_some_iff.mp hj).1
        refine GI7.gr.2 j T _ hj ?_
        rw [List.getElem?_replicate, if_pos]
        have := GI7.gr.1
        rw [List.length_replicate] at this
        omega
      have trees := sorted_trees so7 Tfull
      have lLs : Ls.length = c := by
        have a := Paired.len so7
        have b := GI7.gr.1
        rw [List.length_replicate] at b
        omega
      have las7 : as7.length = Ls.length := (Paired.len lo7).symm
      refine ⟨t, rfl, ⟨_, SqT.of ht7⟩, for_tup (K := K) (a := t) (xs := as7.map V.ref) (fun j σ H' => EBut td H7 H' ∧ (∃ kvs, H' td = some (.dT kvs) ∧ TalI kvs (Ls.take j)) ∧ ∃ v : Option V, σ = [some (.ref g), some (.ref wt), some (vn c), some (.ref gg), v, some .non, some (.ref td)])
        ⟨fun _ _ _ q => q, ⟨[], htd7, by rw [List.take_zero]; exact TalI.nil⟩, none, rfl⟩ (fun j σ H' _ h => SqT.of (h.1 _ _ (neg_of htd7 ht7 (fun z => nomatch z)) ht7)) ?_ ?_⟩
      · rintro j x σ H8 hj ⟨eb, ⟨kvs, hkv, tal⟩, v, rfl⟩
        rw [List.getElem?_map] at hj
        obtain ⟨a, ha, rfl⟩ := Option.map_eq_some_iff.mp hj
        obtain ⟨L, hL, haL⟩ := Paired.get' lo7 ha
        have haL8 := eb _ _ (neg_of htd7 haL (fun z => nomatch z)) haL
        have haK : H8 a = some (.tup ((L.map numK).map kV)) := by rw [kV_vns]; exact haL8
        obtain ⟨ks, kk1, kk2, kk3⟩ := tal.keys
        have kl : kvs.length < sizeLine := by
          have q1 : ks.length ≤ (Ls.take j).length := by
            have key : ∀ {l m : List (List Nat)}, l.Nodup → (∀ x ∈ l, x ∈ m) → l.length ≤ m.length := by
              intro l
              induction l with
              | nil => intro m _ _; exact Nat.zero_le _
              | cons x l ih =>
                intro m hn h
                obtain ⟨h1, h2⟩ := List.nodup_cons.mp hn
                have hx := h x List.mem_cons_self
                have ih := ih (m := m.erase x) h2 fun y hy => (List.mem_erase_of_ne (show y ≠ x from fun e => h1 (by rw [← e]; exact hy))).mpr (h y (List.mem_cons_of_mem _ hy))
                rw [List.length_erase_of_mem hx] at ih
                have : 0 < m.length := List.length_pos_of_mem hx
                rw [List.length_cons]
                omega
            exact key kk2 fun x hx => (kk3 x).mp hx
          have q2 : kvs.length = ks.length := by
            have := congrArg List.length kk1
            rw [List.length_map, List.length_map] at this
            exact this
          rw [List.length_take] at q1
          rw [sizeLine_eq]
          omega
        refine ⟨_, rfl, td, rfl, .inr ⟨kvs, .inl hkv⟩, _, rfl, _, DGet.t hkv haK, (((Ls.take j).count L : Nat) : Int), 1, ?_, rfl, ?_⟩
        · rw [tal.val L]
          by_cases cm : L ∈ Ls.take j
          · rw [if_pos cm]; rfl
          · rw [if_neg cm, List.count_eq_zero.mpr cm]; rfl
        refine ⟨_, rfl, _, rfl, td, _, rfl, DPut.t hkv haK kl, ?_⟩
        refine ⟨eb.upd, ⟨_, upd_same, ?_⟩, _, rfl⟩
        rw [take_snoc hL]
        have ev : V.int (((Ls.take j).count L : Nat) + 1 : Int) = vn ((Ls.take j).count L + 1) := by unfold vn; rw [Int.natCast_add]; rfl
        show TalI (putK kvs (L.map numK) (V.int (((Ls.take j).count L : Nat) + 1 : Int))) _
        rw [ev]
        exact tal.put L
      · rintro σ H8 ⟨eb, ⟨kvs, hkv, tal⟩, v, rfl⟩
        rw [List.length_map, las7, List.take_length] at tal
        obtain ⟨ks, kk1, kk2, kk3⟩ := tal.keys
        have kl : ks.length ≤ Ls.length := by
          have key : ∀ {l m : List (List Nat)}, l.Nodup → (∀ x ∈ l, x ∈ m) → l.length ≤ m.length := by
            intro l
            induction l with
            | nil => intro m _ _; exact Nat.zero_le _
            | cons x l ih =>
              intro m hn h
              obtain ⟨h1, h2⟩ := List.nodup_cons.mp hn
              have hx := h x List.mem_cons_self
              have ih := ih (m := m.erase x) h2 fun y hy => (List.mem_erase_of_ne (show y ≠ x from fun e => h1 (by rw [← e]; exact hy))).mpr (h y (List.mem_cons_of_mem _ hy))
              rw [List.length_erase_of_mem hx] at ih
              have : 0 < m.length := List.length_pos_of_mem hx
              rw [List.length_cons]
              omega
          exact key kk2 fun x hx => (kk3 x).mp hx
        have s08 : Same H H8 := fun b o q => eb b o (fun z => by
          have q5 := s05 _ _ q
          rw [z, ntd] at q5
          cases q5) (s07 _ _ q)
        refine ⟨_, rfl, td, kvs, ks, n - 1, rfl, hkv, kk1, by omega, by omega, fun L hL => ?_, fun ks' asK p perm srt np lok => ?_⟩
        · have tr := trees L ((kk3 L).mp hL)
          have sz := tr.size hroot hes
          exact ⟨by omega, fun x hx => Nat.lt_of_lt_of_le (tr.lt x hx) l60⟩
        have s9 : Same H8 (upd H8 p (.lst (asK.map V.ref))) := same_new np
        have hp9 : upd H8 p (.lst (asK.map V.ref)) p = some (.lst (asK.map V.ref)) := upd_same
        revert s9 hp9
        generalize upd H8 p (.lst (asK.map V.ref)) = H9
        intro s9 hp9
        clear np
        have htd9 := s9 _ _ hkv
        refine ⟨p, rfl, ⟨_, SqL.of hp9⟩, fun D9 nD9 => ?_⟩
        obtain ⟨qs, q1, q2, q3⟩ := Paired.zipd lok
        have hp9' : SqL K H9 p (qs.map fun q => V.ref q.2) := by
          have q := SqL.of (K := K) hp9
          rw [q2, List.map_map] at q
          exact q
        have qlen : qs.length ≤ 40 := by
          have a := perm.length_eq
          rw [q1, List.length_map] at a
          omega
        refine comp_list (K := K) qs (fun q => V.ref q.2) (fun _ => true) (fun H' q y => ∃ ra, y = .ref ra ∧ ra ≠ D9 ∧ q.2 ≠ D9 ∧ H' ra = some (.tup [vn (Ls.count q.1), .ref q.2]) ∧ H' q.2 = some (.tup (vns q.1))) nD9 hp9' (by rw [sizeLine_eq]; omega) (fun Ha Hb x y eb h => ?_) (fun _ => rfl) (fun x _ H3 s3 Qb q => q H3 (Same.refl _)) (fun q hq _ Hc sc hyD Qv qq => ?_) (fun Hc ys sc hDc r => ?_)
        · obtain ⟨ra, e1, e2, e3, e4, e5⟩ := h
          exact ⟨ra, e1, e2, e3, eb _ _ e2 e4, eb _ _ e3 e5⟩
        · have hq2 := sc _ _ (s9 _ _ (q3 q hq))
          have hqK : Hc q.2 = some (.tup ((q.1.map numK).map kV)) := by rw [kV_vns]; exact hq2
          have hqm : q.1 ∈ Ls := (kk3 q.1).mp (perm.mem_iff.mp (by rw [q1]; exact List.mem_map_of_mem hq))
          have gd : DGet Hc td (.ref q.2) (some (vn (Ls.count q.1))) := by
            have z : DGet Hc td (.ref q.2) (valV kvs (q.1.map numK)) := DGet.t (sc _ _ htd9) hqK
            rw [tal.val q.1, if_pos hqm] at z
            exact z
          refine ⟨_, rfl, _, rfl, td, _, rfl, gd, _, rfl, by show 2 ≤ sizeLine; rw [sizeLine_eq]; decide, fun ra nra => ?_⟩
          obtain ⟨yD, hyD⟩ := hyD
          have sr : Same Hc (upd Hc ra (.tup [vn (Ls.count q.1), .ref q.2])) := same_new nra
          exact qq (.ref ra) _ sr ⟨ra, rfl, Ne.symm (ne_of_none hyD nra), neg_of hyD hq2 (fun z => nomatch z), upd_same, sr _ _ hq2⟩
        rw [List.filter_eq_self.mpr (fun _ _ => rfl)] at r
        have keyR : ∀ {qs : List (List Nat × Addr)} {ys : List V}, Paired (fun (q : List Nat × Addr) (y : V) => ∃ ra, y = .ref ra ∧ ra ≠ D9 ∧ q.2 ≠ D9 ∧ Hc ra = some (.tup [vn (Ls.count q.1), .ref q.2]) ∧ Hc q.2 = some (.tup (vns q.1))) qs ys →
            ∃ ras : List Addr, ys = ras.map V.ref ∧ RowsO Hc ras ((qs.map (·.1)).map fun L => (Ls.count L, L)) := by
          intro qs ys h
          induction h with
          | nil => exact ⟨[], rfl, .nil⟩
          | cons h _ ih =>
            obtain ⟨ra, rfl, _, _, h3, h4⟩ := h
            obtain ⟨ras, rfl, i1⟩ := ih
            exact ⟨ra :: ras, rfl, .cons ⟨_, h3, h4⟩ i1⟩
        obtain ⟨ras, rfl, rows⟩ := keyR r
        rw [← q1] at rows
        refine ⟨D9, _, rfl, .inl ⟨SqL.of hDc, fun tt ntt => ?_⟩⟩
        have st : Same Hc (upd Hc tt (.tup (ras.map V.ref))) := same_new ntt
        refine k1 hall _ tt _ (((s08.trans s9).trans sc).trans st) ⟨ras, upd_same, rows.same st⟩ ?_
        refine good_of lLs trees l60 hroot hes (sorted_sum so7) GI7.lu (fun i w0 u0 h1 h2 => GI7.tally i w0 u0 h1 h2) (perm.nodup_iff.mpr kk2) (fun L => (perm.mem_iff).trans (kk3 L)) ?_
        refine srt.imp fun h => ?_
        rw [code60_cN, code60_cN] at h
        omega
    · -- a side that bars
      intro H5 j a e v s5 haj hej hvj hlt0 nl
      have s05 := s04.trans s5
      obtain ⟨l, hlj, hal⟩ := Paired.get' G.las haj
      have hm : (masks n)[j]? = some (maskOf l) := by unfold masks; rw [List.getElem?_map, hlj]; rfl
      rw [List.getElem?_map, hm] at hej hvj
      cases hej; cases hvj
      have hl1 := List.mem_of_getElem? hlj
      rw [ent_lot n2 n10 hes hl1 hw.2.1, need_lot n2 n10 hroot hl1] at hlt0
      have hnr : root ∉ l := fun z => by rw [if_pos z] at hlt0; omega
      rw [if_neg hnr] at hlt0
      -- where it stands
      have hsplit : lots n = (lots n).take j ++ l :: (lots n).drop (j + 1) := by
        obtain ⟨h1, h2⟩ := List.getElem?_eq_some_iff.mp hlj
        rw [← h2, ← List.drop_eq_getElem_cons h1, List.take_append_drop]
      have hsides : sides n root = ((lots n).take j).filter (fun l => !decide (root ∈ l)) ++ l :: ((lots n).drop (j + 1)).filter (fun l => !decide (root ∈ l)) := by
        unfold sides
        conv => lhs; rw [hsplit]
        rw [List.filter_append, List.filter_cons, if_pos (by rw [decide_eq_false hnr]; rfl)]
      have hpre : ∀ l' ∈ ((lots n).take j).filter (fun l => !decide (root ∈ l)), c ≤ widthInto es ws l' := fun l' hl' => by
        obtain ⟨hl1', hl2'⟩ := List.mem_filter.mp hl'
        rw [Bool.not_eq_true', decide_eq_false_iff_not] at hl2'
        obtain ⟨i, hi⟩ := List.getElem?_of_mem hl1'
        rw [List.getElem?_take] at hi
        split at hi
        · rename_i hij
          have hm' : (masks n)[i]? = some (maskOf l') := by unfold masks; rw [List.getElem?_map, hi]; rfl
          have hml := List.mem_of_getElem? hi
          have := nl i (ent es ws (maskOf l')) (need (List.replicate c (2 ^ root)) (maskOf l')) hij (by rw [List.getElem?_map, hm']; rfl) (by rw [List.getElem?_map, hm']; rfl)
          rw [ent_lot n2 n10 hes hml hw.2.1, need_lot n2 n10 hroot hml, if_neg hl2'] at this
          omega
        · cases hi
      refine ⟨_, rfl, true, rfl, ?_⟩
      refine iteT ?_
      refine ⟨_, rfl, by show 1 ≤ 1000; decide, fun xa nxa => ?_⟩
      refine ⟨xa, .ref a, rfl, upd_same, fun dd ndd hne => ⟨rfl, dd, [("side", .ref a)], upd_same, by rw [upd_ne hne, upd_same], ?_, ?_⟩⟩
      · rw [upd_ne hne] at ndd
        exact ndd
      · rw [upd_ne hne] at ndd
        have sE : Same H5 (upd (del (upd (upd (upd H5 xa (exo xa (He.ga K "Barred") none)) dd (exd dd [("side", .ref a)])) xa (exo xa (He.ga K "Barred") (some dd))) xa) dd (.xd [("side", .ref a)])) := fun b o q => by
          have b1 : b ≠ xa := ne_of_none q nxa
          have b2 : b ≠ dd := ne_of_none q ndd
          rw [upd_ne b2, del_ne b1, upd_ne b1, upd_ne b2, upd_ne b1]
          exact q
        exact k2 _ l _ hsides hpre (by omega) _ dd a (s05.trans sE) upd_same (sE _ _ (s5 _ _ hal))
end
end Spt

set_option Elab.async false
set_option linter.all false
set_option maxRecDepth 100000
set_option maxHeartbeats 8000000
/-! comprehensions with two names; rates.py: is_load, are_loads -/
namespace Spt
open PySem PySem.Spec PyProof.Rows L2
section
variable {α : Type} {K : PySem.W.Frag} {H : Hp} {D : Addr} {σ : L2.St} {vs : List Nat} {tt : TT} {te : TE} {g : TG}
/-- a comprehension over what walks, the target any -/
theorem comp_it {J : It} {n : Nat} {G : Hp → Prop} {Y : Nat → Hp → V → Hp → Prop} (w : Walk J n G Y) (p : Nat → Bool) (R : Hp → Nat → V → Prop) (f : Nat → Hp → L2.St → Prop) (hD : H D = none) (hG : ∀ H1, Same H H1 → G H1) (hz : n < sizeLine) (hR : ∀ H1 H2 x y, EBut D H1 H2 → R H1 x y → R H2 x y)
    (hg : ∀ (i : Nat) (x : V) (H1 H2 : Hp), i < n → Same H H1 → H1 D ≠ none → Y i H1 x H2 → Same H1 H2 ∧ ∀ Qg : L2.St → Hp → Prop, (∀ σ2, f i H2 σ2 → wipe σ2 vs = wipe σ vs → Qg σ2 H2) → g x (wipe σ vs) H2 Qg)
    (ht : ∀ i, i < n → ∀ σ2 H1, Same H H1 → f i H1 σ2 → ∀ Qb : Bool → Hp → Prop, (∀ H2, Same H1 H2 → Qb (p i) H2) → tt σ2 H1 Qb)
    (hf : ∀ i σ2 H1 H2, Same H1 H2 → f i H1 σ2 → f i H2 σ2)
    (he : ∀ i, i < n → p i = true → ∀ σ2 H1, Same H H1 → f i H1 σ2 → (∃ ys, H1 D = some (.lst ys)) → ∀ Qv : VK, (∀ y H2, Same H1 H2 → R H2 i y → Qv y H2) → te σ2 H1 Qv)
    {Q : Hp → Prop} (hQ : ∀ H1 ys, Same H H1 → H1 D = some (.lst ys) → Paired (R H1) ((List.range n).filter p) ys → Q H1) :
    ∃ W : Nat → Nat → Hp → Prop, (∃ m, W 0 m (upd H D (.lst []))) ∧ ∀ i m H1, W i m H1 → (J.stop i H1 ∧ Q H1) ∨ (J.go i H1 ∧ ∃ Nx : Hp → Prop, (∀ H', Nx H' → ∃ m', m' < m ∧ W (i + 1) m' H') ∧ ∀ x H', J.yld i H1 x H' → g x (wipe σ vs) H' fun σ2 H2 => wipe σ2 vs = wipe σ vs ∧ tt σ2 H2 fun b H3 =>
        if b = true then te σ2 H3 fun y H4 => ∃ acc, H4 D = some (.lst acc) ∧ acc.length < sizeLine ∧ Nx (upd H4 D (.lst (acc ++ [y]))) else Nx H3) := by
  refine lc_it w (fun i H1 => CInv H D (List.range n) p R i H1) (CInv.start hD) (fun i H1 _ c => hG H1 c.1) (fun i x H1 H2 hi c hy => ?_) (fun H1 c => ?_)
  · have hDn : H1 D ≠ none := by
      obtain ⟨_, ys, e, _⟩ := c
      rw [e]
      exact fun z => nomatch z
    obtain ⟨s12, hgo⟩ := hg i x H1 H2 hi c.1 hDn hy
    refine hgo _ fun σ2 hσ hwp => ⟨hwp, ?_⟩
    have c2 : CInv H D (List.range n) p R i H2 := by
      obtain ⟨c1, ys, e1, e2⟩ := c
      exact ⟨c1.trans s12, ys, s12 _ _ e1, Paired.imp (fun a b q => hR _ _ _ _ (EBut.of s12) q) e2⟩
    have hx : (List.range n)[i]? = some i := by rw [List.getElem?_range hi]
    obtain ⟨c1, ys, e1, e2⟩ := c2
    refine ht i hi σ2 H2 c1 hσ _ fun H3 s3 => ?_
    by_cases hp : p i = true
    · rw [hp, if_pos rfl]
      refine he i hi hp σ2 H3 (c1.trans s3) (hf _ _ _ _ s3 hσ) ⟨ys, s3 _ _ e1⟩ _ fun y H4 s4 r => ?_
      have hl := CInv.len e2
      rw [List.length_range] at hl
      refine ⟨ys, s4 _ _ (s3 _ _ e1), Nat.lt_of_le_of_lt hl hz, same_mut ((c1.trans s3).trans s4) hD, ys ++ [y], upd_same, ?_⟩
      have eb : EBut D H4 (upd H4 D (.lst (ys ++ [y]))) := fun b o hb e => by rw [upd_ne hb]; exact e
      have eb1 : EBut D H2 (upd H4 D (.lst (ys ++ [y]))) := fun b o hb e => eb b o hb (s4 _ _ (s3 _ _ e))
      rw [take_snoc hx, List.filter_append, List.filter_cons, if_pos hp]
      exact Paired.snoc (Paired.imp (fun a b q => hR _ _ _ _ eb1 q) e2) (hR _ _ _ _ eb r)
    · have hp' : p i = false := by simpa using hp
      rw [hp', if_neg Bool.false_ne_true]
      refine ⟨c1.trans s3, ys, s3 _ _ e1, ?_⟩
      rw [take_snoc hx, List.filter_append, List.filter_cons, if_neg hp]
      simp only [List.filter_nil, List.append_nil]
      exact Paired.imp (fun a b q => hR _ _ _ _ (EBut.of s3) q) e2
  · obtain ⟨c1, ys, c2, c3⟩ := c
    rw [List.take_of_length_le (by rw [List.length_range]; exact Nat.le_refl n)] at c3
    exact hQ H1 ys c1 c2 c3
theorem walk_zipT {a b : Addr} {xs ys : List V} {n : Nat} (hn : n = min xs.length ys.length) : Walk (RZ.ItzT K a b) n (fun H => SqT K H a xs ∧ SqT K H b ys) (YPair (fun i => xs[i]?) (fun i => ys[i]?)) := by
  subst hn
  refine ⟨fun i _ hi q => ?_, fun _ q => ⟨xs, ys, q.1, q.2, by omega⟩, fun i H v H' _ q y => ?_⟩
  · have h1 : i < xs.length := by omega
    have h2 : i < ys.length := by omega
    exact ⟨xs, ys, xs[i], ys[i], q.1, q.2, by simp [h1], by simp [h2]⟩
  · obtain ⟨T, x, z, h1, h2, h3, h4, h5⟩ := y
    exact ⟨T, x, z, h1, h2, h3, h4 xs q.1, h5 ys q.2⟩
end
section
variable {X : Cx} {elt iter c : Expr} {scope : Scope} {x y : Str} {px py tpos pos : Pos} {kk : Nat} {wi : TI} {te : TE} {t : TT}
/-- [e for x, y in ..], slots i, j -/
theorem lcp (i j : Nat) (hi : PI X (.Tuple [.Name x px, .Name y py] kk tpos) iter wi) (he : ∀ (s : Shared) (H : Hp) (C : Addr) (cl : List (Str × Addr)) (fp : List Addr), PE (X.blk s H scope (compEnvC scope cl C X.env) fp) elt te) {N ps : List Str} {sc : Scope} (S : FnScope N ps sc) (eN : X.N = N := by rfl) (eS : X.env.scope = sc := by rfl) (ok : blkC N sc scope [(x, i), (y, j)] = true := by decide +kernel)
    (hc : X.calm = true := by rfl) (hx : X.N[i]? = some x := by rfl) (hy : X.N[j]? = some y := by rfl) (hl : (PySem.relabel scope X.env).names.lookup x = some .local := by rfl) (hl2 : (PySem.relabel scope X.env).names.lookup y = some .local := by rfl) (hs : ∀ x, foldedSetIterable iter X.env x = pure x := by intro _; rfl) :
    PE X (.ListComp elt [⟨.Tuple [.Name x px, .Name y py] kk tpos, iter, [], 0⟩] scope pos) (tLc wi (gTup X.K 2 (gCons (gName i) (gCons (gName j) gNil))) tYes te [i, j]) :=
  pe_lc (own := [(x, i), (y, j)]) hc (eN ▸ S.nd) hi (by rw [eN, eS]; exact blkOk_by ok) (fun _ _ _ _ _ => pg_tup hc (pgs_cons (pg_name (eN ▸ S.nd) hx (Or.inl hl) (.inr hl)) (pgs_cons (pg_name (eN ▸ S.nd) hy (Or.inl hl2) (.inr hl2)) pgs_nil))) (fun _ _ _ _ _ => pts_nil) he hs
theorem lcpt (i j : Nat) (hi : PI X (.Tuple [.Name x px, .Name y py] kk tpos) iter wi) (ht : ∀ (s : Shared) (H : Hp) (C : Addr) (cl : List (Str × Addr)) (fp : List Addr), PT (X.blk s H scope (compEnvC scope cl C X.env) fp) c t) (he : ∀ (s : Shared) (H : Hp) (C : Addr) (cl : List (Str × Addr)) (fp : List Addr), PE (X.blk s H scope (compEnvC scope cl C X.env) fp) elt te) {N ps : List Str} {sc : Scope} (S : FnScope N ps sc) (eN : X.N = N := by rfl) (eS : X.env.scope = sc := by rfl) (ok : blkC N sc scope [(x, i), (y, j)] = true := by decide +kernel)
    (hc : X.calm = true := by rfl) (hx : X.N[i]? = some x := by rfl) (hy : X.N[j]? = some y := by rfl) (hl : (PySem.relabel scope X.env).names.lookup x = some .local := by rfl) (hl2 : (PySem.relabel scope X.env).names.lookup y = some .local := by rfl) (hs : ∀ x, foldedSetIterable iter X.env x = pure x := by intro _; rfl) :
    PE X (.ListComp elt [⟨.Tuple [.Name x px, .Name y py] kk tpos, iter, [c], 0⟩] scope pos) (tLc wi (gTup X.K 2 (gCons (gName i) (gCons (gName j) gNil))) t te [i, j]) :=
  pe_lc (own := [(x, i), (y, j)]) hc (eN ▸ S.nd) hi (by rw [eN, eS]; exact blkOk_by ok) (fun _ _ _ _ _ => pg_tup hc (pgs_cons (pg_name (eN ▸ S.nd) hx (Or.inl hl) (.inr hl)) (pgs_cons (pg_name (eN ▸ S.nd) hy (Or.inl hl2) (.inr hl2)) pgs_nil))) (fun s H C cl fp => pts_one (ht s H C cl fp)) he hs
theorem ltK (K : PySem.W.Frag) (hu : X.A.units < cLine) (h : X.K = K := by rfl) : OpR X (compareOp .Lt) (rLtT K) := by
  subst h
  exact op_ltT hu
end
theorem RowsO.get {H : Hp} {ras rows} (h : RowsO H ras rows) {i : Nat} {r : Nat × List Nat} (hr : rows[i]? = some r) : ∃ ra ta, ras[i]? = some ra ∧ H ra = some (.tup [vn r.1, .ref ta]) ∧ H ta = some (.tup (vns r.2)) := by
  obtain ⟨ra, h1, ta, h2, h3⟩ := Paired.get' h hr
  exact ⟨ra, ta, h1, h2, h3⟩
theorem range_map_getD {α : Type} (d : α) (l : List α) : (List.range l.length).map (fun k => l.getD k d) = l := by
  refine List.ext_getElem? fun k => ?_
  rw [List.getElem?_map]
  by_cases h : k < l.length
  · rw [List.getElem?_range h, Option.map_some, List.getD_eq_getElem?_getD, List.getElem?_eq_getElem h]; rfl
  · rw [List.getElem?_eq_none (l := l) (by omega), List.getElem?_eq_none (l := List.range l.length) (by rw [List.length_range]; omega)]; rfl
theorem range_filter_getD {α β : Type} (d : α) (l : List α) (p : α → Bool) (f : α → β) : ((List.range l.length).filter fun k => p (l.getD k d)).map (fun k => f (l.getD k d)) = (l.filter p).map f := by
  conv => rhs; rw [← range_map_getD d l]
  rw [List.filter_map, List.map_map]
  rfl
section
variable {K : PySem.W.Frag} {H : Hp} {D : Addr} {σ : L2.St} {vs : List Nat} {tt : TT} {te : TE}
/-- over a tuple of pairs (times, tree) -/
theorem comp_rows {t : Addr} {ras : List Addr} {rows : List (Nat × List Nat)} (i j : Nat) (htp : H t = some (.tup (ras.map V.ref))) (hrows : RowsO H ras rows) (p : Nat × List Nat → Bool) (val : Nat × List Nat → V) (hD : H D = none) (hz : rows.length < sizeLine)
    (hw : ∀ a b : V, wipe (((wipe σ vs).set i (some a)).set j (some b)) vs = wipe σ vs)
    (ht : ∀ r, r ∈ rows → ∀ ta H1, Same H H1 → H1 ta = some (.tup (vns r.2)) → ∀ Qb : Bool → Hp → Prop, (∀ H2, Same H1 H2 → Qb (p r) H2) → tt (((wipe σ vs).set i (some (vn r.1))).set j (some (.ref ta))) H1 Qb)
    (he : ∀ r, r ∈ rows → p r = true → ∀ ta H1, Same H H1 → H1 ta = some (.tup (vns r.2)) → ∀ Qv : VK, (∀ H2, Same H1 H2 → Qv (val r) H2) → te (((wipe σ vs).set i (some (vn r.1))).set j (some (.ref ta))) H1 Qv)
    {Q : Hp → Prop} (hQ : ∀ H1, Same H H1 → H1 D = some (.lst ((rows.filter p).map val)) → Q H1) :
    ∃ W : Nat → Nat → Hp → Prop, (∃ m, W 0 m (upd H D (.lst []))) ∧ ∀ i' m H1, W i' m H1 → ((Itt K t).stop i' H1 ∧ Q H1) ∨ ((Itt K t).go i' H1 ∧ ∃ Nx : Hp → Prop, (∀ H', Nx H' → ∃ m', m' < m ∧ W (i' + 1) m' H') ∧ ∀ x H', (Itt K t).yld i' H1 x H' → gTup K 2 (gCons (gName i) (gCons (gName j) gNil)) x (wipe σ vs) H' fun σ2 H2 => wipe σ2 vs = wipe σ vs ∧ tt σ2 H2 fun b H3 =>
        if b = true then te σ2 H3 fun y H4 => ∃ acc, H4 D = some (.lst acc) ∧ acc.length < sizeLine ∧ Nx (upd H4 D (.lst (acc ++ [y]))) else Nx H3) := by
  have hlen : ras.length = rows.length := Paired.len hrows
  have hl2 : (ras.map V.ref).length = rows.length := by rw [List.length_map, hlen]
  refine comp_it (H := H) (tt := tt) (te := te) (g := gTup K 2 (gCons (gName i) (gCons (gName j) gNil))) (Q := Q) (σ := σ) (vs := vs) (n := rows.length) (by rw [← hl2]; exact walk_tup (K := K) (a := t) (xs := ras.map V.ref)) (fun k => p (rows.getD k (0, []))) (fun _ k y => y = val (rows.getD k (0, [])))
    (fun k H' σ2 => ∃ ta, H' ta = some (.tup (vns (rows.getD k (0, [])).2)) ∧ σ2 = ((wipe σ vs).set i (some (vn (rows.getD k (0, [])).1))).set j (some (.ref ta))) hD
    (fun H5 s5 => SqT.of (s5 _ _ htp)) hz (fun _ _ _ _ _ h => h) (fun k x H5 H6 hi s5 hDn hy => ?_) (fun k hk σ2 H5 s5 hf Qb q => ?_) (fun k σ2 H5 H6 s6 hf => ?_) (fun k hk hp σ2 H5 s5 hf _ Qv qq => ?_) (fun H5 ys s5 d5 r => ?_)
  · obtain ⟨rfl, hx⟩ := hy
    refine ⟨Same.refl _, fun Qg q => ?_⟩
    have hr : rows[k]? = some (rows.getD k (0, [])) := by rw [List.getD_eq_getElem?_getD, List.getElem?_eq_getElem hi]; rfl
    obtain ⟨ra, ta, b1, b2, b3⟩ := hrows.get hr
    rw [List.getElem?_map, b1] at hx
    cases hx
    refine ⟨ra, _, rfl, SqT.of (s5 _ _ b2), rfl, _, _, rfl, _, _, rfl, rfl, ?_⟩
    exact q _ ⟨ta, s5 _ _ b3, rfl⟩ (hw _ _)
  · obtain ⟨ta, h1, rfl⟩ := hf
    refine ht _ ?_ ta H5 s5 h1 Qb q
    rw [List.getD_eq_getElem?_getD, List.getElem?_eq_getElem hk]
    exact List.getElem_mem hk
  · obtain ⟨ta, h1, h2⟩ := hf
    exact ⟨ta, s6 _ _ h1, h2⟩
  · obtain ⟨ta, h1, rfl⟩ := hf
    refine he _ ?_ hp ta H5 s5 h1 Qv fun H6 s6 => qq _ H6 s6 rfl
    rw [List.getD_eq_getElem?_getD, List.getElem?_eq_getElem hk]
    exact List.getElem_mem hk
  · have ey := Paired.eq_map r
    subst ey
    rw [range_filter_getD (0, []) rows p val] at d5
    exact hQ H5 s5 d5
end
theorem lexLt_int : ∀ a b : List Nat, HT.lexLt (a.map fun n : Nat => (n : Int)) (b.map fun n : Nat => (n : Int)) = lexLt a b
  | [], [] => rfl
  | [], _ :: _ => rfl
  | _ :: _, [] => rfl
  | x :: a, y :: b => by
    show (if (x : Int) = (y : Int) then _ else decide ((x : Int) < (y : Int))) = if x = y then lexLt a b else decide (x < y)
    by_cases h : x = y
    · rw [if_pos h, if_pos (by rw [h]), lexLt_int a b]
    · rw [if_neg h, if_neg (by omega)]
      rw [Bool.eq_iff_iff, decide_eq_true_eq, decide_eq_true_eq]
      omega
section
variable {P : Program} {w : World} {K : PySem.W.Frag} {mg : Str → Option Value} {base : Heap}
/-! is_load -/
theorem scIsLoad : FnScope ["net", "thing"] ["net", "thing"] (defScope sPIsLoad) := ⟨rfl, rfl, rfl, by decide +kernel, rfl, by decide +kernel, by decide +kernel⟩
def spIsLoad (K : PySem.W.Frag) : Sp := fun vs H Q _ => ∃ (g lt ra ta : Addr) (n root m : Nat) (es : List (Nat × Nat)) (l : List Nat), vs = [.ref g, .ref ra] ∧ NetO K H g n root lt ∧ LinksO H lt es ∧ H ra = some (.tup [vn m, .ref ta]) ∧ H ta = some (.tup (vns l)) ∧ 1 ≤ m ∧ m ≤ 40 ∧ IsTree n root es l ∧ root < n ∧ n ≤ 10 ∧ Links n es ∧ ∀ H', Same H H' → Q (.bl true) H'
theorem okIsLoad (T : Txt K mg) : FnK P w K mg base CX0 7 (He.ga K "is_load") ["net", "thing"] (spIsLoad K) := by
  refine FnK.of T.d_PIsLoad scIsLoad (fun _ _ _ _ _ _ us hl => match us, hl with | [_, _], _ => rfl) (fun vs H Q E h => ?_) (fun cdv A outer s H vs Q E hr h => ?_)
  · obtain ⟨g, lt, ra, ta, n, root, m, es, l, rfl, _⟩ := h
    rfl
  · obtain ⟨g, lt, ra, ta, n, root, m, es, l, rfl, hg, hlt, hra, hta, m1, m40, tr, hroot, n10, hes, k⟩ := h
    refine ⟨_, pss_one (ps_ret (pe_and (cl ((okIsPair T).mono (by decide)) hr T.g_is_pair (a1 (pv 1))) (pe_and (cl ((okIsWithin T).mono (by decide)) hr T.g_is_within (a3 (pe_ix ix_tup (pv 1) pe_int (fun _ _ => rfl)) pe_int (gint T.i_MOST_RATE))) (pe_one (cl (okIsTree T) hr T.g_is_tree (a2 (pv 0) (pe_ix ix_tup (pv 1) pe_int (fun _ _ => rfl)))))))), ?_⟩
    refine ⟨_, rfl, ra, _, _, rfl, hra, true, rfl, ?_⟩
    refine ⟨_, rfl, ra, _, 0, _, rfl, rfl, SqT.of hra, rfl, (m : Int), 1, 40, rfl, true, ?_, ?_⟩
    · rw [decide_eq_true (show (1 : Int) ≤ (m : Int) ∧ (m : Int) ≤ 40 by omega)]
    · exact ⟨_, rfl, _, rfl, ra, _, 1, _, rfl, rfl, SqT.of hra, rfl, g, lt, ta, n, root, es, l, rfl, hg, hlt, hta, tr, hroot, n10, hes, fun H1 s1 => k H1 s1⟩
/-! are_loads -/
theorem scAreLoads : FnScope ["net", "widths", "many", "thing", "load", "one", "other", "link", "width", "times", "tree"] ["net", "widths", "many", "thing"] (defScope sPAreLoads) := ⟨rfl, rfl, rfl, by decide +kernel, rfl, by decide +kernel, by decide +kernel⟩
def spAreLoads (K : PySem.W.Frag) : Sp := fun vs H Q _ => ∃ (g lt wt t : Addr) (n root c : Nat) (es : List (Nat × Nat)) (ws : List Nat) (rows : List (Nat × List Nat)), vs = [.ref g, .ref wt, vn c, .ref t] ∧ NetO K H g n root lt ∧ LinksO H lt es ∧ WidthsO H wt ws es ∧ es.length ≤ 60 ∧ root < n ∧ n ≤ 10 ∧ Links n es ∧ c ≤ 40 ∧ LoadsO H t rows ∧ GoodLoads n root es ws c rows ∧ rows.length ≤ 40 ∧ ∀ H', Same H H' → Q (.bl true) H'
theorem okAreLoads (T : Txt K mg) : FnK P w K mg base CX0 8 (He.ga K "are_loads") ["net", "widths", "many", "thing"] (spAreLoads K) := by
  refine FnK.of T.d_PAreLoads scAreLoads (fun _ _ _ _ _ _ us hl => match us, hl with | [_, _, _, _], _ => rfl) (fun vs H Q E h => ?_) (fun cdv A outer s H vs Q E hr h => ?_)
  · obtain ⟨g, lt, wt, t, n, root, c, es, ws, rows, rfl, _⟩ := h
    rfl
  · obtain ⟨g, lt, wt, t, n, root, c, es, ws, rows, rfl, hg, hlt, hw, l60, hroot, n10, hes, c40, ⟨ras, ht, hrows⟩, GL, r40, k⟩ := h
    have hlen : ras.length = rows.length := Paired.len hrows
    refine ⟨_, pss_cons (ps_expr (cl ((okCheckWidths T).mono (by decide)) hr T.g_check_widths (a2 (pv 0) (pv 1))))
      (pss_cons (ps_expr (cl ((okCheckNumber T).mono (by decide)) hr T.g_check_number (a3 (pv 2) pe_int (gint T.i_MOST_RATE))))
      (pss_cons (ps_if (PW.pt (pw_or (pt_not (pt_val (cb call_isTy T.f_isinstance (a2 (pv 3) (bty "tuple" T.f_tuple))))) (pw_or1 (pt_not (pt_val (cb (cr_all rfl) T.f_all (a1 (lcn 4 (pi_tup (pv 3)) (fun _ _ _ _ _ => cl (okIsLoad T) hr T.g_is_load (a2 (pv 0) (pv 4))) scAreLoads)))))))) (pss_one (ps_ret pe_bl)) pss_nil)
      (pss_cons (ps_if (pt_not (pt_val (cb (cr_all rfl) T.f_all (a1 (lcp 5 6 (RZ.pi_zipA rfl T.f_zip (a2 (pv 3) (pe_slice sl_tupA (pv 3) (po_some pe_int) po_none))) (fun _ _ _ _ _ => pe_cmpR (ltK K (Room.units0 hr)) (pe_ix (ixT K) (pv 5) pe_int (fun _ _ => rfl)) (pe_ix (ixT K) (pv 6) pe_int (fun _ _ => rfl)) (nomark _)) scAreLoads))))) (pss_one (ps_ret pe_bl)) pss_nil)
      (pss_cons (ps_for PassesOwn.never rfl (pi_enumT rfl T.f_enumerate (a1 (pv 1))) (pg_tup rfl (pgs_cons (pg_name (i := 7) scAreLoads.nd rfl (.inr rfl)) (pgs_cons (pg_name (i := 8) scAreLoads.nd rfl (.inl rfl)) pgs_nil)))
        (pss_one (ps_if (pt_cmpR op_gt (cb (cr_sum rfl) T.f_sum (a1 (lcpt 9 10 (pi_tup (pv 3)) (fun _ _ _ _ _ => pt_cmpR (opIn K) (pv 7) (pv 10) (by rfl)) (fun _ _ _ _ _ => pv 9) scAreLoads))) (pv 8) (nomark _)) (pss_one (ps_ret pe_bl)) pss_nil)))
      (pss_one (ps_ret (pe_cmpR op_eq (cb (cr_sum rfl) T.f_sum (a1 (lcp 9 10 (pi_tup (pv 3)) (fun _ _ _ _ _ => pv 9) scAreLoads))) (pv 2) (nomark _)))))))), ?_⟩
    refine ⟨_, rfl, _, rfl, g, lt, wt, n, root, es, ws, rfl, hg, hlt, hw, by omega, fun H1 s1 => ?_⟩
    refine ⟨_, rfl, _, _, _, rfl, by omega, by omega, ?_⟩
    refine ⟨_, rfl, _, _, _, _, rfl, .base (.tup (s1 _ _ ht)), (by decide +kernel : kitB "tuple" "tuple" = some true), true, rfl, ?_⟩
    refine iteF ?_
    refine ⟨_, rfl, t, rfl, ⟨_, SqT.of (s1 _ _ ht)⟩, fun D hD => ?_⟩
    obtain ⟨ps, p1, p2, p3⟩ := Paired.zipd hrows
    have lps : ps.length = rows.length := by rw [p2, List.length_map]
    have htp : SqT K H1 t (ps.map fun q => V.ref q.1) := by
      have q := SqT.of (K := K) (s1 _ _ ht)
      rw [p1, List.map_map] at q
      exact q
    refine comp_tup (K := K) ps (fun q => V.ref q.1) (fun _ => true) (fun _ q y => y = .bl true) hD htp (by rw [sizeLine_eq]; omega) (fun _ _ _ _ _ h => h) (fun _ => rfl) (fun x _ H3 s3 Qb q => q H3 (Same.refl _)) (fun q hm _ H3 s3 _ Qv qq => ?_) (fun H2 ys s2 d2 r => ?_)
    · have s13 := s1.trans s3
      obtain ⟨ta, a1, a2⟩ := p3 q hm
      have hmr : q.2 ∈ rows := by rw [p2]; exact List.mem_map_of_mem hm
      have tr := GL.tree q.2 hmr
      exact ⟨_, rfl, _, rfl, g, lt, q.1, ta, n, root, q.2.1, es, q.2.2, rfl, hg.same s13, hlt.same s13, s13 _ _ a1, s13 _ _ a2, tr.2.1, by omega, tr.1, hroot, n10, hes, fun H4 s4 => qq _ H4 s4 rfl⟩
    rw [List.filter_eq_self.mpr (fun _ _ => rfl)] at r
    have ey := Paired.eq_map r
    subst ey
    refine ⟨D, ps.map fun _ => true, rfl, by rw [List.map_map]; exact SqL.of d2, true, by rw [all_true _ _ (fun _ _ => rfl)], ?_⟩
    refine iteF ?_
    have s02 := s1.trans s2
    -- ascending
    have ht2 := s02 _ _ ht
    have hrows2 := hrows.same s02
    have zipgo : ∀ (H3 : Hp) (b : Addr) (xs2 : List V), Same H H3 → SqT K H3 b xs2 → (∀ i, xs2[i]? = (ras.map V.ref)[i + 1]?) → xs2.length ≤ ras.length → ∀ (D4 : Addr), H3 D4 = none → ∃ W : Nat → Nat → Hp → Prop, (∃ m, W 0 m (upd H3 D4 (.lst []))) ∧ ∀ i m H1, W i m H1 → ((RZ.ItzT K t b).stop i H1 ∧ (Same H3 H1 ∧ ∃ bs : List Bool, H1 D4 = some (.lst (bs.map V.bl)) ∧ bs.all id = true)) ∨ ((RZ.ItzT K t b).go i H1 ∧ ∃ Nx : Hp → Prop, (∀ H', Nx H' → ∃ m', m' < m ∧ W (i + 1) m' H') ∧ ∀ x H', (RZ.ItzT K t b).yld i H1 x H' → gTup K 2 (gCons (gName 5) (gCons (gName 6) gNil)) x (wipe (start ["net", "widths", "many", "thing", "load", "one", "other", "link", "width", "times", "tree"] [.ref g, .ref wt, vn c, .ref t]) [5, 6]) H' fun σ2 H2 => wipe σ2 [5, 6] = wipe (start ["net", "widths", "many", "thing", "load", "one", "other", "link", "width", "times", "tree"] [.ref g, .ref wt, vn c, .ref t]) [5, 6] ∧ tYes σ2 H2 fun b H3 =>
          if b = true then tOp (rLtT K) (tOp (rIxT K) (tVar 5) (tC (.int 1))) (tOp (rIxT K) (tVar 6) (tC (.int 1))) σ2 H3 fun y H4 => ∃ acc, H4 D4 = some (.lst acc) ∧ acc.length < sizeLine ∧ Nx (upd H4 D4 (.lst (acc ++ [y]))) else Nx H3) := by
      intro H3 b xs2 s3 hb2 hx2 hl2 D4 hD4
      have s03 := s3
      refine comp_it (H := H3) (tt := tYes) (g := gTup K 2 (gCons (gName 5) (gCons (gName 6) gNil))) (te := tOp (rLtT K) (tOp (rIxT K) (tVar 5) (tC (.int 1))) (tOp (rIxT K) (tVar 6) (tC (.int 1)))) (Q := fun H1 => (Same H3 H1 ∧ ∃ bs : List Bool, H1 D4 = some (.lst (bs.map V.bl)) ∧ bs.all id = true)) (σ := start ["net", "widths", "many", "thing", "load", "one", "other", "link", "width", "times", "tree"] [.ref g, .ref wt, vn c, .ref t]) (vs := [5, 6]) (walk_zipT (K := K) (a := t) (b := b) (xs := ras.map V.ref) (ys := xs2) rfl) (fun _ => true) (fun _ _ y => y = .bl true) (fun i H' σ2 => ∃ (ra rb ta tb : Addr) (r1 r2 : Nat × List Nat), rows[i]? = some r1 ∧ rows[i + 1]? = some r2 ∧ H' ra = some (.tup [vn r1.1, .ref ta]) ∧ H' ta = some (.tup (vns r1.2)) ∧ H' rb = some (.tup [vn r2.1, .ref tb]) ∧ H' tb = some (.tup (vns r2.2)) ∧ σ2 = [some (.ref g), some (.ref wt), some (vn c), some (.ref t), none, some (.ref ra), some (.ref rb), none, none, none, none]) hD4
        (fun H5 s5 => ⟨SqT.of (s5 _ _ (s03 _ _ ht)), same_tseq s5 hb2⟩) (by rw [List.length_map, sizeLine_eq]; omega) (fun _ _ _ _ _ h => h) (fun i x H5 H6 hi s5 hDn hy => ?_) (fun i _ σ2 H5 s5 _ Qb q => q H5 (Same.refl _)) (fun i σ2 H5 H6 s6 hf => ?_) (fun i hi _ σ2 H5 s5 hf _ Qv qq => ?_) (fun H5 ys s5 d5 r => ?_)
      · obtain ⟨T1, x1, y1, rfl, nT, rfl, hx, hy⟩ := hy
        have s56 : Same H5 (upd H5 T1 (.tup [x1, y1])) := same_new nT
        refine ⟨s56, fun Qg q => ?_⟩
        have hx : (ras.map V.ref)[i]? = some x1 := hx
        have hy : xs2[i]? = some y1 := hy
        rw [hx2] at hy
        rw [List.getElem?_map] at hx hy
        obtain ⟨ra, hra, rfl⟩ := Option.map_eq_some_iff.mp hx
        obtain ⟨rb, hrb, rfl⟩ := Option.map_eq_some_iff.mp hy
        obtain ⟨r1, hr1, ta, b1, b2⟩ := Paired.get hrows hra
        obtain ⟨r2, hr2, tb, b3, b4⟩ := Paired.get hrows hrb
        have s06 := (s03.trans s5).trans s56
        refine ⟨T1, _, rfl, SqT.of upd_same, rfl, _, _, rfl, _, _, rfl, rfl, ?_⟩
        exact q _ ⟨ra, rb, ta, tb, r1, r2, hr1, hr2, s06 _ _ b1, s06 _ _ b2, s06 _ _ b3, s06 _ _ b4, rfl⟩ rfl
      · obtain ⟨ra, rb, ta, tb, r1, r2, h1, h2, h3, h4, h5, h6, h7⟩ := hf
        exact ⟨ra, rb, ta, tb, r1, r2, h1, h2, s6 _ _ h3, s6 _ _ h4, s6 _ _ h5, s6 _ _ h6, h7⟩
      · obtain ⟨ra, rb, ta, tb, r1, r2, h1, h2, h3, h4, h5, h6, rfl⟩ := hf
        have h4' := h4
        have h6' := h6
        rw [vns_eq] at h4' h6'
        refine ⟨_, rfl, ra, _, 1, _, rfl, rfl, SqT.of h3, rfl, _, rfl, rb, _, 1, _, rfl, rfl, SqT.of h5, rfl, ta, tb, _, _, rfl, rfl, SqT.of h4', SqT.of h6', ?_⟩
        refine qq _ H5 (Same.refl _) ?_
        rw [lexLt_int]
        have hasc := GL.asc
        have hl1 := (List.getElem?_eq_some_iff.mp h1).1
        have hl2 := (List.getElem?_eq_some_iff.mp h2).1
        have e1 : (rows.map (·.2))[i]? = some r1.2 := by rw [List.getElem?_map, h1]; rfl
        have e2 : (rows.map (·.2))[i + 1]? = some r2.2 := by rw [List.getElem?_map, h2]; rfl
        obtain ⟨q1, q2⟩ := List.getElem?_eq_some_iff.mp e1
        obtain ⟨q3, q4⟩ := List.getElem?_eq_some_iff.mp e2
        have := (List.pairwise_iff_getElem.mp hasc) i (i + 1) q1 q3 (Nat.lt_succ_self i)
        rw [q2, q4] at this
        rw [this]
      · rw [List.filter_eq_self.mpr (fun _ _ => rfl)] at r
        have ey := Paired.eq_map r
        subst ey
        refine ⟨s5, (List.range (min (ras.map V.ref).length xs2.length)).map fun _ => true, ?_, all_true (List.range (min (ras.map V.ref).length xs2.length)) (fun _ => true) (fun _ _ => rfl)⟩
        rw [d5, List.map_map]
        rfl
    have fsum : ∀ i, (((rows.filter fun r => decide (i ∈ r.2)).map fun r => r.1).sum : Nat) = (rows.map fun r => if i ∈ r.2 then r.1 else 0).sum := fun i => by
      clear hrows hlen p1 p2 p3 lps htp d2 ht2 hrows2 zipgo GL r40 r
      induction rows with
      | nil => rfl
      | cons a l ih =>
        rw [List.filter_cons, List.map_cons, List.sum_cons]
        by_cases c : i ∈ a.2
        · rw [if_pos (decide_eq_true c), if_pos c, List.map_cons, List.sum_cons, ih]
        · rw [if_neg (by rw [decide_eq_false c]; exact Bool.false_ne_true), if_neg c, ih, Nat.zero_add]
    have vsum : ∀ l : List (Nat × List Nat), l.map (fun r => vn r.1) = ((l.map fun r => r.1).map fun n : Nat => (n : Int)).map V.int := fun l => by
      rw [List.map_map, List.map_map]
      rfl
    have after : ∀ H5, Same H H5 → tSeq (tFor (iEnumT K (tCons (tVar 1) tNil)) (gTup K 2 (gCons (gName 7) (gCons (gName 8) gNil))) (tIfS (tTest (tOp (rI0 fun i j => .bl (decide (j < i))) (tCB (rSum K) (tCons (tLc (iTup K (tVar 3)) (gTup K 2 (gCons (gName 9) (gCons (gName 10) gNil))) (tTest (tOp (rIn K false) (tVar 7) (tVar 10))) (tVar 9) [9, 10]) tNil)) (tVar 8))) (tRet (tC (.bl false))) tNext))
        (tRet (tOp rEq (tCB (rSum K) (tCons (tLc (iTup K (tVar 3)) (gTup K 2 (gCons (gName 9) (gCons (gName 10) gNil))) tYes (tVar 9) [9, 10]) tNil)) (tVar 2))) { nx := fun _ H' => Q .non H', rt := Q } (start ["net", "widths", "many", "thing", "load", "one", "other", "link", "width", "times", "tree"] [.ref g, .ref wt, vn c, .ref t]) H5 := by
      intro H5 s5
      refine ⟨_, rfl, wt, _, rfl, SqT.of (s5 _ _ hw.1), for_enumT (K := K) (a := wt) (xs := vns ws) (fun k σ H' => Same H H' ∧ ∃ u v : Option V, σ = [some (.ref g), some (.ref wt), some (vn c), some (.ref t), none, none, none, u, v, none, none])
        ⟨s5, none, none, rfl⟩ (fun k σ H' h => SqT.of (h.1 _ _ hw.1)) ?_ ?_⟩
      · rintro i x T1 σ H6 hi ⟨s6, u, v, rfl⟩ nT
        obtain ⟨wi, hwi, rfl⟩ := vns_get hi
        have s7 : Same H (upd H6 T1 (.tup [.int (i : Nat), vn wi])) := s6.trans (same_new nT)
        refine ⟨T1, _, rfl, SqT.of upd_same, rfl, _, _, rfl, _, _, rfl, rfl, ?_⟩
        refine ⟨_, rfl, t, rfl, ⟨_, SqT.of (s7 _ _ ht)⟩, fun D7 nD7 => ?_⟩
        refine comp_rows (K := K) 9 10 (s7 _ _ ht) (hrows.same s7) (fun r => decide (i ∈ r.2)) (fun r => vn r.1) nD7 (by rw [sizeLine_eq]; omega) (fun _ _ => rfl) (fun r hr ta H8 s8 hta Qb q => ?_) (fun r hr _ ta H8 s8 hta Qv q => ?_) (fun H8 s8 d8 => ?_)
        · refine ⟨_, rfl, _, rfl, ta, _, rfl, .inr (SqT.of hta), rfl, vns_flat _, _, rfl, ?_⟩
          have := inV_vns i r.2
          show Qb (inV (vn i) (vns r.2)) H8
          rw [this]
          exact q H8 (Same.refl _)
        · exact ⟨_, rfl, q H8 (Same.refl _)⟩
        · rw [vsum] at d8
          refine ⟨D7, _, rfl, SqL.of d8, _, rfl, _, _, rfl, rfl, ?_⟩
          refine ⟨false, blF ?_, ?_⟩
          · rw [sum_cast, fsum i]
            have := GL.fits i wi hwi
            omega
          · exact iteF ⟨s7.trans s8, _, _, rfl⟩
      · rintro σ H6 ⟨s6, u, v, rfl⟩
        refine ⟨_, rfl, t, rfl, ⟨_, SqT.of (s6 _ _ ht)⟩, fun D7 nD7 => ?_⟩
        refine comp_rows (K := K) 9 10 (s6 _ _ ht) (hrows.same s6) (fun r => true) (fun r => vn r.1) nD7 (by rw [sizeLine_eq]; omega) (fun _ _ => rfl) (fun r hr ta H8 s8 hta Qb q => q H8 (Same.refl _)) (fun r hr _ ta H8 s8 hta Qv q => ⟨_, rfl, q H8 (Same.refl _)⟩) (fun H8 s8 d8 => ?_)
        rw [vsum, List.filter_eq_self.mpr (fun _ _ => rfl)] at d8
        refine ⟨D7, _, rfl, SqL.of d8, _, rfl, rfl, ?_⟩
        rw [sum_cast]
        have e : decide (V.int (((rows.map fun r => r.1).sum : Nat) : Int) = vn c) = true := by
          have := GL.sum
          rw [this]
          exact decide_eq_true rfl
        show Q (.bl (decide (V.int (((rows.map fun r => r.1).sum : Nat) : Int) = vn c))) H8
        rw [e]
        exact k H8 (s6.trans s8)
    refine ⟨_, rfl, _, rfl, _, rfl, t, ras.map V.ref, rfl, SqT.of ht2, fun hwhole => ?_, fun _ p np => ?_⟩
    · have h0 : ras = [] := by
        have h1 : HT.sIx (ras.map V.ref).length 0 (some 1) = min 1 (ras.map V.ref).length := HT.sIx_nat _ 0 1
        have h2 := hwhole.1
        rw [h1, List.length_map] at h2
        exact List.length_eq_zero_iff.mp (by omega)
      refine ⟨t, t, _, _, rfl, .inr ⟨SqT.of ht2, SqT.of ht2, fun D4 hD4 => ?_⟩⟩
      obtain ⟨W, w0, w1⟩ := zipgo H2 t (ras.map V.ref) s02 (SqT.of ht2) (fun i => by rw [h0]; simp) (by rw [List.length_map]; exact Nat.le_refl _) D4 hD4
      refine ⟨W, w0, fun i m H4 hW => (w1 i m H4 hW).imp (fun hh => ⟨hh.1, ?_⟩) id⟩
      obtain ⟨_, s4, bs, b1, b2⟩ := hh
      exact ⟨D4, bs, rfl, SqL.of b1, true, by rw [b2], iteF (after H4 (s02.trans s4))⟩
    · have hcut : cutV (ras.map V.ref) (some 1) none = (ras.map V.ref).drop 1 := by
        unfold cutV
        have h1 : HT.sIx (ras.map V.ref).length 0 (some 1) = min 1 (ras.map V.ref).length := HT.sIx_nat _ 0 1
        rw [h1, HT.sIx_none]
        by_cases h0 : 1 ≤ (ras.map V.ref).length
        · rw [Nat.min_eq_left h0]
          exact List.take_of_length_le (by rw [List.length_drop]; exact Nat.le_refl _)
        · have : ras.map V.ref = [] := List.length_eq_zero_iff.mp (by omega)
          rw [this]
          rfl
      rw [hcut]
      have sp : Same H2 (upd H2 p (.tup ((ras.map V.ref).drop 1))) := same_new np
      have hp3 : upd H2 p (.tup ((ras.map V.ref).drop 1)) p = some (.tup ((ras.map V.ref).drop 1)) := upd_same
      revert sp hp3
      generalize upd H2 p (.tup ((ras.map V.ref).drop 1)) = H3
      intro sp hp3
      have s03 := s02.trans sp
      refine ⟨t, p, _, _, rfl, .inr ⟨SqT.of (sp _ _ ht2), SqT.of hp3, fun D4 hD4 => ?_⟩⟩
      obtain ⟨W, w0, w1⟩ := zipgo H3 p ((ras.map V.ref).drop 1) s03 (SqT.of hp3) (fun i => by rw [List.getElem?_drop, Nat.add_comm]) (by rw [List.length_drop, List.length_map]; omega) D4 hD4
      refine ⟨W, w0, fun i m H4 hW => (w1 i m H4 hW).imp (fun hh => ⟨hh.1, ?_⟩) id⟩
      obtain ⟨_, s4, bs, b1, b2⟩ := hh
      exact ⟨D4, bs, rfl, SqL.of b1, true, by rw [b2], iteF (after H4 (s03.trans s4))⟩
end
end Spt

set_option Elab.async false
set_option linter.all false
set_option maxRecDepth 100000
set_option maxHeartbeats 8000000
/-! the law: numbers that are drawn -/
namespace Spt
open PySem PySem.Spec PyProof.Rows L2
section
variable {P : Program} {w : World} {K : PySem.W.Frag} {mg : Str → Option Value} {base : Heap}
theorem scLMixed : FnScope ["_law_cell", "_law_turn", "_law_number"] ["_law_cell", "_law_turn"] (defScope sLMixed) := ⟨rfl, rfl, rfl, by decide +kernel, rfl, by decide +kernel, by decide +kernel⟩
def spLMixed : Sp := fun vs H Q _ => ∃ a b : Int, vs = [.int a, .int b] ∧ ∀ i : Int, Q (.int i) H
theorem okLMixed (T : Txt K mg) : FnK P w K mg base CX0 1 (He.ga K "_law_mixed") ["_law_cell", "_law_turn"] spLMixed := by
  refine FnK.of T.d_LMixed scLMixed (fun _ _ _ _ _ _ us hl => match us, hl with | [_, _], _ => rfl) (fun vs H Q E h => ?_) (fun cdv A outer s H vs Q E hr h => ?_)
  · obtain ⟨a, b, rfl, _⟩ := h
    rfl
  · obtain ⟨a, b, rfl, k⟩ := h
    refine ⟨_, pss_cons (ps_set (i := 2) scLMixed.nd rfl (.inl rfl) (pe_op op_mod (ct call_int1 T.f_int (a1 (pe_op op_mul (pe_op op_add (pe_op op_add (pe_op op_mod (ct call_int1 T.f_int (a1 (pv 0))) pe_int) (pe_op op_mul pe_int (pv 1))) pe_int) pe_int))) pe_int))
      (pss_cons (ps_set (i := 2) scLMixed.nd rfl (.inl rfl) (pe_op op_mod (ct call_int1 T.f_int (a1 (pe_op op_mul (pv 2) (pe_op op_add (pe_op op_fdiv (pv 2) pe_int) pe_int)))) pe_int))
      (pss_one (ps_ret (pe_op op_fdiv (pe_op op_mod (ct call_int1 T.f_int (a1 (pe_op op_mul (pv 2) (pe_op op_add (pe_op op_fdiv (pv 2) pe_int) pe_int)))) pe_int) pe_int)))), ?_⟩
    have small : ∀ x : Int, -(2 ^ 64) < x % 2147483647 ∧ x % 2147483647 < 2 ^ 64 := fun x => by
      have h1 := Int.emod_nonneg x (show (2147483647 : Int) ≠ 0 by decide)
      have h2 := Int.emod_lt_of_pos x (show (0 : Int) < 2147483647 by decide)
      constructor <;> omega
    have p7 : (0 : Int) < 2147483647 := by decide
    have p9 : (0 : Int) < 2147483399 := by decide
    have d1 : ∀ i : Int, CDiv i 1009 := fun _ => ⟨by decide, by decide⟩
    have d2 : ∀ i : Int, CDiv i 2003 := fun _ => ⟨by decide, by decide⟩
    have d3 : ∀ i : Int, CDiv i 16 := fun _ => ⟨by decide, by decide⟩
    have m1 : ∀ i : Int, CMul 7919 i := fun _ => .inl (by decide)
    have m2 : ∀ i : Int, CMul i 48271 := fun _ => .inr (by decide)
    refine ⟨_, rfl, .inl ⟨_, rfl, _, _, rfl, rfl, p7, _, rfl, _, _, rfl, rfl, m1 _, _, _, rfl, rfl, _, _, rfl, rfl, _, _, rfl, rfl, m2 _, .inl ⟨_, rfl, _, _, rfl, rfl, p7, ?_⟩⟩⟩
    refine ⟨_, rfl, _, rfl, _, _, rfl, rfl, d1 _, _, _, rfl, rfl, _, _, rfl, rfl, .inl (small _), .inl ⟨_, rfl, _, _, rfl, rfl, p7, ?_⟩⟩
    refine ⟨_, rfl, _, rfl, _, _, rfl, rfl, d2 _, _, _, rfl, rfl, _, _, rfl, rfl, .inl (small _), .inl ⟨_, rfl, _, _, rfl, rfl, p9, _, _, rfl, rfl, d3 _, ?_⟩⟩
    exact k _
/-- what is left to draw from -/
def HandO (H : Hp) (h ca : Addr) (cs : List Int) : Prop := ∃ (at' left dr : Nat), H h = some (.lst [.ref ca, vn at', vn left, vn dr]) ∧ H ca = some (.lst (cs.map V.int)) ∧ ca ≠ h ∧ cs.length ≤ 1000
theorem HandO.same {H H' : Hp} {h ca : Addr} {cs : List Int} (s : Same H H') (q : HandO H h ca cs) : HandO H' h ca cs := by
  obtain ⟨a, l, d, h1, h2, h3⟩ := q
  exact ⟨a, l, d, s _ _ h1, s _ _ h2, h3⟩
theorem HandO.new {H : Hp} {h ca D : Addr} {cs : List Int} (q : HandO H h ca cs) (n : H D = none) : D ≠ h ∧ D ≠ ca := by
  obtain ⟨a, l, d, h1, h2, _⟩ := q
  exact ⟨Ne.symm (ne_of_none h1 n), Ne.symm (ne_of_none h2 n)⟩
theorem HandO.upd {H : Hp} {h ca D : Addr} {cs : List Int} {o : HO} (q : HandO H h ca cs) (n1 : D ≠ h) (n2 : D ≠ ca) : HandO (upd H D o) h ca cs := by
  obtain ⟨a, l, d, h1, h2, h3⟩ := q
  exact ⟨a, l, d, by rw [upd_ne (Ne.symm n1)]; exact h1, by rw [upd_ne (Ne.symm n2)]; exact h2, h3⟩
theorem HandO.here {H : Hp} {h ca : Addr} {cs : List Int} (q : HandO H h ca cs) : ∃ o, H h = some o := by
  obtain ⟨a, l, d, h1, _⟩ := q
  exact ⟨_, h1⟩
theorem int_mod_vn (i : Int) {m : Nat} (hm : 0 < m) : ∃ r : Nat, r < m ∧ V.int (i % (m : Int)) = vn r := by
  refine ⟨(i % (m : Int)).toNat, ?_, ?_⟩
  · have h1 := Int.emod_nonneg i (show (m : Int) ≠ 0 by omega)
    have h2 := Int.emod_lt_of_pos i (show (0 : Int) < m by omega)
    omega
  · unfold vn
    congr 1
    have h1 := Int.emod_nonneg i (show (m : Int) ≠ 0 by omega)
    omega
theorem int_div_vn (i m : Nat) : V.int ((i : Int) / (m : Int)) = vn (i / m) := by
  unfold vn
  rw [Int.natCast_ediv]
theorem scLDraw : FnScope ["_law_hand_here", "_law_many", "_law_found", "_law_cells", "_law_at", "_law_cell"] ["_law_hand_here", "_law_many"] (defScope sLDraw) := ⟨rfl, rfl, rfl, by decide +kernel, rfl, by decide +kernel, by decide +kernel⟩
def spLDraw : Sp := fun vs H Q _ => ∃ (h ca : Addr) (cs : List Int) (m : Nat), vs = [.ref h, vn m] ∧ HandO H h ca cs ∧ 0 < m ∧ m < 1000000 ∧ ∀ H' r, r < m → EBut h H H' → HandO H' h ca cs → Q (vn r) H'
theorem okLDraw (T : Txt K mg) : FnK P w K mg base CX0 2 (He.ga K "_law_draw") ["_law_hand_here", "_law_many"] spLDraw := by
  refine FnK.of T.d_LDraw scLDraw (fun _ _ _ _ _ _ us hl => match us, hl with | [_, _], _ => rfl) (fun vs H Q E h => ?_) (fun cdv A outer s H vs Q E hr h => ?_)
  · obtain ⟨h, ca, cs, m, rfl, _⟩ := h
    rfl
  · obtain ⟨h, ca, cs, m, rfl, ⟨at', left, dr, hh, hca, hne, hcl⟩, m0, mb, k⟩ := h
    refine ⟨_, pss_cons (ps_asg (pe_op op_add (pe_ix ix_list (pv 0) pe_int (fun _ _ => rfl)) pe_int) (pg_sub (pv 0) pe_int set_list))
      (pss_cons (ps_if (pt_cmpR op_gt (pe_ix ix_list (pv 0) pe_int (fun _ _ => rfl)) pe_int (nomark _))
        (pss_cons (ps_set (i := 2) scLDraw.nd rfl (.inl rfl) (pe_op op_mod (ct call_int1 T.f_int (a1 (pe_ix ix_list (pv 0) pe_int (fun _ _ => rfl)))) (pv 1)))
        (pss_cons (ps_asg (pe_op op_fdiv (pe_ix ix_list (pv 0) pe_int (fun _ _ => rfl)) (pv 1)) (pg_sub (pv 0) pe_int set_list))
        (pss_one (ps_ret (pv 2))))) pss_nil)
      (pss_cons (ps_par (i := 3) (j := 4) rfl scLDraw.nd rfl rfl (by decide) rfl rfl (a2 (pe_ix ix_list (pv 0) pe_int (fun _ _ => rfl)) (pe_ix ix_list (pv 0) pe_int (fun _ _ => rfl))) rfl)
      (pss_cons (ps_asg (pe_op op_add (pv 4) pe_int) (pg_sub (pv 0) pe_int set_list))
      (pss_cons (ps_if (pt_cmpR op_eq (cb call_len T.f_len (a1 (pv 3))) pe_int (nomark _)) (pss_one (ps_ret (pe_op op_mod (ct call_int1 T.f_int (a1 (cl (okLMixed T) hr T.g__law_mixed (a2 pe_int (pe_ix ix_list (pv 0) pe_int (fun _ _ => rfl)))))) (pv 1)))) pss_nil)
      (pss_cons (ps_set (i := 5) scLDraw.nd rfl (.inl rfl) (pe_ix ix_list (pv 3) (pe_op op_mod (ct call_int1 T.f_int (a1 (pv 4))) (cb call_len T.f_len (a1 (pv 3)))) (fun _ _ => rfl)))
      (pss_cons (ps_if (PW.pt (pw_and (pt_cmpR op_lt (pv 4) (cb call_len T.f_len (a1 (pv 3))) (nomark _)) (pw_and1 (pt_cmpR op_ge (cb call_abs T.f_abs (a1 (pv 5))) (pe_op op_pow pe_int pe_int) (nomark _)))))
        (pss_cons (ps_asg (pe_op op_fdiv (cb call_abs T.f_abs (a1 (pv 5))) (pv 1)) (pg_sub (pv 0) pe_int set_list))
        (pss_one (ps_ret (pe_op op_mod (ct call_int1 T.f_int (a1 (cb call_abs T.f_abs (a1 (pv 5))))) (pv 1))))) pss_nil)
      (pss_one (ps_ret (pe_op op_mod (ct call_int1 T.f_int (a1 (cl (okLMixed T) hr T.g__law_mixed (a2 (pv 5) (pe_ix ix_list (pv 0) pe_int (fun _ _ => rfl)))))) (pv 1)))))))))), ?_⟩
    -- drawn
    refine ⟨_, rfl, h, _, 3, _, rfl, rfl, SqL.of hh, rfl, _, _, rfl, rfl, ?_⟩
    have e1 : V.int ((dr : Int) + 1) = vn (dr + 1) := by unfold vn; rw [Int.natCast_add]; rfl
    refine ⟨_, rfl, h, _, 3, 3, rfl, rfl, hh, rfl, ?_⟩
    have hh1 : upd H h (.lst ([.ref ca, vn at', vn left, vn dr].set 3 (V.int ((dr : Int) + 1)))) h = some (.lst [.ref ca, vn at', vn left, vn (dr + 1)]) := by rw [upd_same, e1]; rfl
    have eb1 : EBut h H (upd H h (.lst ([.ref ca, vn at', vn left, vn dr].set 3 (V.int ((dr : Int) + 1))))) := ebut_upd
    revert hh1 eb1
    generalize upd H h (.lst ([.ref ca, vn at', vn left, vn dr].set 3 (V.int ((dr : Int) + 1)))) = H1
    intro hh1 eb1
    have hca1 := eb1 _ _ hne hca
    -- digits left
    refine ⟨_, rfl, h, _, 2, _, rfl, rfl, SqL.of hh1, rfl, _, _, rfl, rfl, ?_⟩
    by_cases c1 : (0 : Int) < (left : Int)
    · refine ⟨true, blT c1, ?_⟩
      refine iteT ?_
      refine ⟨_, rfl, h, _, 2, _, rfl, rfl, SqL.of hh1, rfl, .inl ⟨_, rfl, _, rfl, _, _, rfl, rfl, by omega, ?_⟩⟩
      obtain ⟨r, hr1, hr2⟩ := int_mod_vn (left : Int) m0
      refine ⟨_, rfl, h, _, 2, _, rfl, rfl, SqL.of hh1, rfl, _, rfl, _, _, rfl, rfl, ⟨by omega, by omega⟩, ?_⟩
      refine ⟨_, rfl, h, _, 2, 2, rfl, rfl, hh1, rfl, ?_⟩
      refine ⟨_, rfl, ?_⟩
      show Q (V.int ((left : Int) % (m : Int))) _
      rw [hr2]
      refine k _ r hr1 eb1.upd ⟨at', left / m, dr + 1, ?_, ?_, hne, hcl⟩
      · rw [upd_same, ← int_div_vn]; rfl
      · rw [upd_ne hne]; exact hca1
    · refine ⟨false, blF c1, ?_⟩
      refine iteF ?_
      refine ⟨_, rfl, h, _, 0, _, rfl, rfl, SqL.of hh1, rfl, _, rfl, h, _, 1, _, rfl, rfl, SqL.of hh1, rfl, _, _, rfl, ?_⟩
      -- at
      have e2 : V.int ((at' : Int) + 1) = vn (at' + 1) := by unfold vn; rw [Int.natCast_add]; rfl
      refine ⟨_, rfl, _, _, rfl, rfl, ?_⟩
      refine ⟨_, rfl, h, _, 1, 1, rfl, rfl, hh1, rfl, ?_⟩
      have hh2 : upd H1 h (.lst ([.ref ca, vn at', vn left, vn (dr + 1)].set 1 (V.int ((at' : Int) + 1)))) h = some (.lst [.ref ca, vn (at' + 1), vn left, vn (dr + 1)]) := by rw [upd_same, e2]; rfl
      have eb2 : EBut h H (upd H1 h (.lst ([.ref ca, vn at', vn left, vn (dr + 1)].set 1 (V.int ((at' : Int) + 1))))) := eb1.upd
      have hca2 : upd H1 h (.lst ([.ref ca, vn at', vn left, vn (dr + 1)].set 1 (V.int ((at' : Int) + 1)))) ca = some (.lst (cs.map V.int)) := by rw [upd_ne hne]; exact hca1
      revert hh2 eb2 hca2
      generalize upd H1 h (.lst ([.ref ca, vn at', vn left, vn (dr + 1)].set 1 (V.int ((at' : Int) + 1)))) = H2
      intro hh2 eb2 hca2
      have hand2 : HandO H2 h ca cs := ⟨at' + 1, left, dr + 1, hh2, hca2, hne, hcl⟩
      refine ⟨_, rfl, _, cs.length, rfl, .inl ⟨_, SqL.of hca2, by rw [List.length_map]⟩, rfl, ?_⟩
      have ez : decide (vn cs.length = vn 0) = decide (cs.length = 0) := by
        rw [dec_vn, Bool.eq_iff_iff, beq_iff_eq, decide_eq_true_eq]
      by_cases c2 : cs.length = 0
      · refine ⟨true, by show V.bl (decide (vn cs.length = vn 0)) = _; rw [ez, decide_eq_true c2], ?_⟩
        refine iteT ?_
        refine ⟨_, rfl, h, _, 3, _, rfl, rfl, SqL.of hh2, rfl, _, _, rfl, fun i => ?_⟩
        refine .inl ⟨_, rfl, _, rfl, _, _, rfl, rfl, by omega, ?_⟩
        obtain ⟨r, hr1, hr2⟩ := int_mod_vn i m0
        show Q (V.int (i % (m : Int))) H2
        rw [hr2]
        exact k _ r hr1 eb2 hand2
      · refine ⟨false, by show V.bl (decide (vn cs.length = vn 0)) = _; rw [ez, decide_eq_false c2], ?_⟩
        refine iteF ?_
        obtain ⟨ix, ix1, ix2⟩ := int_mod_vn (at' : Int) (show 0 < cs.length by omega)
        have hcell : (cs.map V.int)[ix]? = some (.int cs[ix]) := by rw [List.getElem?_map, List.getElem?_eq_getElem ix1]; rfl
        refine ⟨_, rfl, _, rfl, .inl ⟨_, rfl, _, rfl, _, cs.length, rfl, .inl ⟨_, SqL.of hca2, by rw [List.length_map]⟩, _, _, rfl, rfl, by omega, ca, _, (ix : Nat), _, rfl, ix2, SqL.of hca2, atI_nat hcell, ?_⟩⟩
        have fin : (∀ i : Int, Q (V.int (i % (m : Int))) H2) := fun i => by
          obtain ⟨r, hr1, hr2⟩ := int_mod_vn i m0
          rw [hr2]
          exact k _ r hr1 eb2 hand2
        have tail : (tRet (tOp (rI (fun _ j => 0 < j) fun i j => .int (i % j)) (tCB (fun xs H Q => (∃ i, xs = [.int i] ∧ Q (.int i) H) ∨ ∃ b, xs = [.bl b] ∧ Q (.int (b2i b)) H) (tCons (tCall spLMixed [] E0 (tCons (tVar 5) (tCons (tOp (rIxL K) (tVar 0) (tC (.int 3))) tNil))) tNil)) (tVar 1))) { nx := fun _ H' => Q .non H', rt := Q } [some (.ref h), some (vn m), none, some (.ref ca), some (vn at'), some (.int cs[ix])] H2 := by
          refine ⟨_, rfl, _, rfl, h, _, 3, _, rfl, rfl, SqL.of hh2, rfl, _, _, rfl, fun i => ?_⟩
          exact .inl ⟨_, rfl, _, rfl, _, _, rfl, rfl, by omega, fin i⟩
        refine ⟨_, rfl, _, rfl, _, cs.length, rfl, .inl ⟨_, SqL.of hca2, by rw [List.length_map]⟩, _, _, rfl, rfl, ?_⟩
        by_cases c3 : (at' : Int) < (cs.length : Int)
        · refine ⟨true, blT c3, ?_⟩
          refine iteT ?_
          have pw : CPow 10 18 := ⟨by decide, by decide, by decide⟩
          have eab : (if cs[ix] < 0 then -cs[ix] else cs[ix]) = ((cs[ix].natAbs : Nat) : Int) := by
            by_cases q : cs[ix] < 0
            · rw [if_pos q]; omega
            · rw [if_neg q]; omega
          refine ⟨_, rfl, _, rfl, _, _, rfl, rfl, pw, _, _, rfl, rfl, ?_⟩
          by_cases c4 : (10 : Int) ^ (18 : Int).toNat ≤ (if cs[ix] < 0 then -cs[ix] else cs[ix])
          · refine ⟨true, blT c4, ?_⟩
            refine iteT ?_
            refine ⟨_, rfl, _, rfl, _, rfl, _, _, rfl, rfl, ⟨by omega, by omega⟩, ?_⟩
            refine ⟨_, rfl, h, _, 2, 2, rfl, rfl, hh2, rfl, ?_⟩
            refine ⟨_, rfl, _, rfl, .inl ⟨_, rfl, _, rfl, _, _, rfl, rfl, by omega, ?_⟩⟩
            rw [eab]
            obtain ⟨r, hr1, hr2⟩ := int_mod_vn ((cs[ix].natAbs : Nat) : Int) m0
            show Q (V.int (((cs[ix].natAbs : Nat) : Int) % (m : Int))) _
            rw [hr2]
            refine k _ r hr1 eb2.upd ⟨at' + 1, cs[ix].natAbs / m, dr + 1, ?_, ?_, hne, hcl⟩
            · rw [upd_same, ← int_div_vn]; rfl
            · rw [upd_ne hne]; exact hca2
          · refine ⟨false, blF c4, ?_⟩
            exact iteF tail
        · refine ⟨false, blF c3, ?_⟩
          exact iteF (iteF tail)
end
end Spt

set_option Elab.async false
set_option linter.all false
set_option maxRecDepth 100000
set_option maxHeartbeats 8000000
/-! the law: hand, is, is_int, is_lot, shuffled -/
namespace Spt
open PySem PySem.Spec PyProof.Rows L2
theorem HandO.ne_of {H : Hp} {h ca a : Addr} {cs : List Int} {o : HO} (hh : HandO H h ca cs) (ha : H a = some o) (hk : ∀ x y z, o ≠ .lst [.ref ca, vn x, vn y, vn z]) : a ≠ h := fun z => by
  obtain ⟨a1, l, d, h1, _⟩ := hh
  rw [z, h1] at ha
  cases ha
  exact hk _ _ _ rfl
theorem cut_perm {α : Type} : ∀ (l : List α) (i : Nat) (y : α), l[i]? = some y → (y :: l.eraseIdx i).Perm l
  | [], i, y, h => by simp at h
  | x :: l, 0, y, h => by
    simp only [List.getElem?_cons_zero, Option.some.injEq] at h
    subst h
    exact List.Perm.refl _
  | x :: l, i + 1, y, h => by
    have ih := cut_perm l i y (by simpa using h)
    rw [List.eraseIdx_cons_succ]
    exact (List.Perm.swap x y _).trans (ih.cons x)
theorem none_of {H H' : Hp} {a : Addr} (s : Same H H') (n : H' a = none) : H a = none := by
  cases e : H a with
  | none => rfl
  | some o => rw [s _ _ e] at n; cases n
section
variable {P : Program} {w : World} {K : PySem.W.Frag} {mg : Str → Option Value} {base : Heap}
theorem scLHand : FnScope ["_law_script", "_law_cell"] ["_law_script"] (defScope sLHand) := ⟨rfl, rfl, rfl, by decide +kernel, rfl, by decide +kernel, by decide +kernel⟩
def spLHand (K : PySem.W.Frag) : Sp := fun vs H Q _ => ∃ (a : Addr) (cs : List Int), vs = [.ref a] ∧ SqL K H a (cs.map V.int) ∧ cs.length ≤ 63 ∧ ∀ H' h ca, Same H H' → H h = none → HandO H' h ca cs → Q (.ref h) H'
theorem okLHand (T : Txt K mg) : FnK P w K mg base CX0 1 (He.ga K "_law_hand") ["_law_script"] (spLHand K) := by
  refine FnK.of T.d_LHand scLHand (fun _ _ _ _ _ _ us hl => match us, hl with | [_], _ => rfl) (fun vs H Q E h => ?_) (fun cdv A outer s H vs Q E hr h => ?_)
  · obtain ⟨a, cs, rfl, _⟩ := h
    rfl
  · obtain ⟨a, cs, rfl, ha, hc, k⟩ := h
    refine ⟨_, pss_one (ps_ret (pe_lst (pa_cons (lcn 1 (pi_list (pe_slice sl_list (pv 0) po_none (po_some pe_int))) (fun _ _ _ _ _ => ct call_int1 T.f_int (a1 (pv 1))) scLHand) (pa_cons pe_int (pa_cons pe_int (pa_cons pe_int pa_nil)))))), ?_⟩
    have hcut : cutV (cs.map V.int) none (some 63) = cs.map V.int := by
      unfold cutV
      have h1 : HT.sIx (cs.map V.int).length (cs.map V.int).length (some 63) = min 63 (cs.map V.int).length := HT.sIx_nat _ _ 63
      rw [h1, HT.sIx_none, List.drop_zero, Nat.sub_zero]
      exact List.take_of_length_le (by rw [List.length_map]; omega)
    refine ⟨_, rfl, _, rfl, a, _, rfl, ha, fun p np => ?_⟩
    rw [hcut]
    have s1 : Same H (upd H p (.lst (cs.map V.int))) := same_new np
    refine ⟨p, rfl, ⟨_, SqL.of upd_same⟩, fun D nD => ?_⟩
    refine comp_list (K := K) cs V.int (fun _ => true) (fun _ c y => y = .int c) nD (SqL.of upd_same) (by rw [sizeLine_eq]; omega) (fun _ _ _ _ _ h => h) (fun _ => rfl) (fun x _ H3 s3 Qb q => q H3 (Same.refl _)) (fun c _ _ H3 s3 _ Qv q => ⟨_, rfl, .inl ⟨_, rfl, q _ H3 (Same.refl _) rfl⟩⟩) (fun H3 ys s3 d3 r => ?_)
    rw [List.filter_eq_self.mpr (fun _ _ => rfl)] at r
    have ey := Paired.eq_map r
    subst ey
    refine ⟨by show 4 ≤ sizeLine; rw [sizeLine_eq]; decide, fun h nh => ?_⟩
    have s13 := s1.trans s3
    have s4 : Same H3 (upd H3 h (.lst [.ref D, .int 0, .int 0, .int 0])) := same_new nh
    refine k _ h D (s13.trans s4) ?_ ⟨0, 0, 0, upd_same, s4 _ _ d3, ne_of_none d3 nh, by omega⟩
    cases e : H h with
    | none => rfl
    | some o => rw [s13 _ _ e] at nh; cases nh
/-! _law_is -/
theorem scLIs : FnScope ["_law_told", "_law_due"] ["_law_told", "_law_due"] (defScope sLIs) := ⟨rfl, rfl, rfl, by decide +kernel, rfl, by decide +kernel, by decide +kernel⟩
def spLIs : Sp := fun vs H Q _ => vs = [.bl true, .bl true] ∧ Q (.bl true) H
theorem okLIs (T : Txt K mg) : FnK P w K mg base CX0 1 (He.ga K "_law_is") ["_law_told", "_law_due"] spLIs := by
  refine FnK.of T.d_LIs scLIs (fun _ _ _ _ _ _ us hl => match us, hl with | [_, _], _ => rfl) (fun vs H Q E h => ?_) (fun cdv A outer s H vs Q E hr h => ?_)
  · obtain ⟨rfl, _⟩ := h
    rfl
  · obtain ⟨rfl, k⟩ := h
    refine ⟨_, pss_one (ps_ret (pe_and (cb call_isTy T.f_isinstance (a2 (pv 0) (bty "bool" T.f_bool))) (pe_one (pe_cmpR op_eq (pv 0) (pv 1) (nomark _))))), ?_⟩
    refine ⟨_, rfl, _, _, _, _, rfl, .base (.bl _), (by decide +kernel : kitB "bool" "bool" = some true), true, rfl, ?_⟩
    exact ⟨_, rfl, _, rfl, rfl, k⟩
/-! _law_is_int -/
theorem scLIsInt : FnScope ["_law_thing", "_law_least", "_law_most"] ["_law_thing", "_law_least", "_law_most"] (defScope sLIsInt) := ⟨rfl, rfl, rfl, by decide +kernel, rfl, by decide +kernel, by decide +kernel⟩
def spLIsInt : Sp := fun vs H Q _ => ∃ i a b : Int, vs = [.int i, .int a, .int b] ∧ Q (.bl (decide (a ≤ i ∧ i ≤ b))) H
theorem okLIsInt (T : Txt K mg) : FnK P w K mg base CX0 1 (He.ga K "_law_is_int") ["_law_thing", "_law_least", "_law_most"] spLIsInt := by
  refine FnK.of T.d_LIsInt scLIsInt (fun _ _ _ _ _ _ us hl => match us, hl with | [_, _, _], _ => rfl) (fun vs H Q E h => ?_) (fun cdv A outer s H vs Q E hr h => ?_)
  · obtain ⟨i, a, b, rfl, _⟩ := h
    rfl
  · obtain ⟨i, a, b, rfl, k⟩ := h
    refine ⟨_, pss_one (ps_ret (pe_and (cb call_isTy T.f_isinstance (a2 (pv 0) (bty "int" T.f_int))) (pe_and (pe_not (cb call_isTy T.f_isinstance (a2 (pv 0) (bty "bool" T.f_bool)))) (pe_one (pe_chain op_le op_le (pv 1) (pv 0) (pv 2)))))), ?_⟩
    refine ⟨_, rfl, _, _, _, _, rfl, .base (.int _), (by decide +kernel : kitB "int" "int" = some true), true, rfl, ?_⟩
    refine ⟨_, rfl, _, _, _, _, rfl, .base (.int _), (by decide +kernel : kitB "int" "bool" = some false), false, rfl, true, rfl, ?_⟩
    refine ⟨_, rfl, _, rfl, _, _, rfl, rfl, _, rfl, ?_⟩
    by_cases h1 : a ≤ i
    · rw [decide_eq_true h1, if_pos rfl]
      refine ⟨_, rfl, _, _, rfl, rfl, ?_⟩
      have e : decide (i ≤ b) = decide (a ≤ i ∧ i ≤ b) := by simp [h1]
      show Q (V.bl (decide (i ≤ b))) H
      rw [e]
      exact k
    · rw [decide_eq_false h1, if_neg Bool.false_ne_true]
      have e : decide (a ≤ i ∧ i ≤ b) = false := by simp [h1]
      rw [e] at k
      exact k
/-! _law_is_lot, of a lot -/
theorem scLIsLot : FnScope ["_law_thing", "_law_many", "_law_last", "_law_one"] ["_law_thing", "_law_many"] (defScope sLIsLot) := ⟨rfl, rfl, rfl, by decide +kernel, rfl, by decide +kernel, by decide +kernel⟩
theorem okLIsLot (T : Txt K mg) : FnK P w K mg base CX0 2 (He.ga K "_law_is_lot") ["_law_thing", "_law_many"] spIsLot := by
  refine FnK.of T.d_LIsLot scLIsLot (fun _ _ _ _ _ _ us hl => match us, hl with | [_, _], _ => rfl) (fun vs H Q E h => ?_) (fun cdv A outer s H vs Q E hr h => ?_)
  · obtain ⟨a, l, m, rfl, _⟩ := h
    rfl
  · obtain ⟨a, l, m, rfl, ha, ok, k⟩ := h
    refine ⟨_, pss_cons (ps_if (pt_not (pt_val (cb call_isTy T.f_isinstance (a2 (pv 0) (bty "tuple" T.f_tuple))))) (pss_one (ps_ret pe_bl)) pss_nil)
      (pss_cons (ps_set (i := 2) scLIsLot.nd rfl (.inl rfl) (pe_un un_neg pe_int))
      (pss_cons (ps_for PassesOwn.never rfl (pi_tup (pv 0)) (pg_name (i := 3) scLIsLot.nd rfl (.inl rfl))
        (pss_cons (ps_if (pt_not (pt_val (cl (okLIsInt T) hr T.g__law_is_int (a3 (pv 3) (pe_op op_add (pv 2) pe_int) (pe_op op_sub (pv 1) pe_int))))) (pss_one (ps_ret pe_bl)) pss_nil)
          (pss_one (ps_set (i := 2) scLIsLot.nd rfl (.inl rfl) (pv 3)))))
      (pss_one (ps_ret pe_bl)))), ?_⟩
    refine ⟨_, rfl, _, _, _, _, rfl, .base (.tup ha), (by decide +kernel : kitB "tuple" "tuple" = some true), true, rfl, ?_⟩
    refine iteF ?_
    refine ⟨_, rfl, ?_⟩
    refine ⟨_, rfl, a, rfl, ⟨_, SqT.of ha⟩, for_tup (K := K) (a := a) (xs := vns l) (fun i σ H' => H' = H ∧ ∃ (last : Int) (v : Option V), σ = [some (.ref a), some (vn m), some (.int last), v] ∧ lotOk last (l.drop i) m)
      ⟨rfl, -1, none, rfl, ok⟩ (fun i σ H' _ ⟨e, _⟩ => by rw [e]; exact SqT.of ha) ?_ ?_⟩
    · rintro i x σ H' hi ⟨rfl, last, v, rfl, lo⟩
      obtain ⟨z, hz, rfl⟩ := vns_get hi
      have hd : l.drop i = z :: l.drop (i + 1) := by
        obtain ⟨h1, h2⟩ := List.getElem?_eq_some_iff.mp hz
        rw [List.drop_eq_getElem_cons h1, h2]
      rw [hd] at lo
      obtain ⟨l1, l2, l3⟩ := lo
      refine ⟨_, rfl, _, rfl, _, _, rfl, rfl, _, rfl, _, _, rfl, rfl, _, _, _, rfl, true, ?_, ?_⟩
      · have e : decide (last + 1 ≤ (z : Int) ∧ (z : Int) ≤ (m : Int) - 1) = true := decide_eq_true ⟨by omega, by omega⟩
        rw [e]
      · refine iteF ?_
        exact ⟨_, rfl, rfl, _, _, rfl, l3⟩
    · rintro σ H' ⟨rfl, _⟩
      exact k
/-! _law_shuffled -/
theorem scLShuffled : FnScope ["_law_hand_here", "_law_things", "_law_left", "_law_found", "_law_turn"] ["_law_hand_here", "_law_things"] (defScope sLShuffled) := ⟨rfl, rfl, rfl, by decide +kernel, rfl, by decide +kernel, by decide +kernel⟩
def spLShuffled (K : PySem.W.Frag) : Sp := fun vs H Q _ => ∃ (h ca a : Addr) (cs : List Int) (xs : List V), vs = [.ref h, .ref a] ∧ HandO H h ca cs ∧ SqL K H a xs ∧ xs.length ≤ 1000 ∧ ∀ H' F ys, EBut h H H' → H F = none → H' F = some (.lst ys) → ys.Perm xs → HandO H' h ca cs → Q (.ref F) H'
theorem okLShuffled (T : Txt K mg) : FnK P w K mg base CX0 3 (He.ga K "_law_shuffled") ["_law_hand_here", "_law_things"] (spLShuffled K) := by
  refine FnK.of T.d_LShuffled scLShuffled (fun _ _ _ _ _ _ us hl => match us, hl with | [_, _], _ => rfl) (fun vs H Q E h => ?_) (fun cdv A outer s H vs Q E hr h => ?_)
  · obtain ⟨h, ca, a, cs, xs, rfl, _⟩ := h
    rfl
  · obtain ⟨h, ca, a, cs, xs, rfl, hh, ha, hz, k⟩ := h
    refine ⟨_, pss_cons (ps_par (i := 2) (j := 3) rfl scLShuffled.nd rfl rfl (by decide) rfl rfl (a2 (ct call_list_of T.f_list (a1 (pv 1))) (pe_lst pa_nil)) rfl)
      (pss_cons (ps_for PassesOwn.never rfl (pi_range1 rfl T.f_range (a1 (cb call_len T.f_len (a1 (pv 1))))) (pg_name (i := 4) scLShuffled.nd rfl (.inl rfl))
        (pss_one (ps_expr (pe_bm PySem.F.plainAttrs_list PySem.F.slot_list_append PySem.F.type_list_append mt_append (pv 3) (a1 (pe_bm PySem.F.plainAttrs_list PySem.F.slot_list_pop PySem.F.type_list_pop mt_popAt (pv 2) (a1 (cl (okLDraw T) hr T.g__law_draw (a2 (pv 0) (cb call_len T.f_len (a1 (pv 2)))))))))))) 
      (pss_one (ps_ret (pv 3)))), ?_⟩
    refine ⟨_, rfl, a, xs, rfl, .inl ha, fun L nL => ?_⟩
    have s1 : Same H (upd H L (.lst xs)) := same_new nL
    refine ⟨by show 0 ≤ sizeLine; omega, fun F nF => ?_⟩
    have nLF : L ≠ F := ne_of_none upd_same nF
    have s2 : Same (upd H L (.lst xs)) (upd (upd H L (.lst xs)) F (.lst [])) := same_new nF
    refine ⟨_, _, rfl, ?_⟩
    obtain ⟨nLh, nLc⟩ := hh.new nL
    obtain ⟨nFh, nFc⟩ := (hh.same s1).new nF
    have nFH : H F = none := none_of s1 nF
    have s12 := s1.trans s2
    have hL2 : upd (upd H L (.lst xs)) F (.lst []) L = some (.lst xs) := s2 _ _ upd_same
    have hF2 : upd (upd H L (.lst xs)) F (.lst []) F = some (.lst []) := upd_same
    have sq2 : SqL K (upd (upd H L (.lst xs)) F (.lst [])) a xs := s12.seq ha
    revert hL2 hF2 s12 sq2
    generalize upd (upd H L (.lst xs)) F (.lst []) = H2
    intro s12 hL2 hF2 sq2
    refine ⟨_, rfl, _, xs.length, rfl, .inl ⟨_, sq2, rfl⟩, (xs.length : Int), rfl, by omega, by omega, ?_⟩
    rw [Int.toNat_natCast]
    refine for_range (lo := 0) (n := xs.length) (fun i σ H' => EBut h H H' ∧ HandO H' h ca cs ∧ (∃ ls fs, H' L = some (.lst ls) ∧ H' F = some (.lst fs) ∧ (fs ++ ls).Perm xs ∧ fs.length = i) ∧ ∃ v, σ = [some (.ref h), some (.ref a), some (.ref L), some (.ref F), v])
      ⟨EBut.of s12, hh.same s12, ⟨xs, [], hL2, hF2, List.Perm.refl _, rfl⟩, none, rfl⟩ ?_ ?_
    · rintro i σ H3 hi ⟨eb3, hh3, ⟨ls, fs, hL3, hF3, pm, fl⟩, v, rfl⟩
      have plen : fs.length + ls.length = xs.length := by rw [← List.length_append]; exact pm.length_eq
      refine ⟨_, rfl, .inl ⟨rfl, _, SqL.of hF3⟩, ?_⟩
      refine ⟨_, rfl, .inl ⟨rfl, _, SqL.of hL3⟩, ?_⟩
      refine ⟨_, rfl, _, rfl, _, ls.length, rfl, .inl ⟨_, SqL.of hL3, rfl⟩, h, ca, cs, ls.length, rfl, hh3, by omega, by omega, fun H4 r hr4 eb4 hh4 => ?_⟩
      have hL4 := eb4 _ _ nLh hL3
      have hF4 := eb4 _ _ nFh hF3
      have hy : ls[r]? = some ls[r] := List.getElem?_eq_getElem hr4
      have hix : seqIndex? (r : Int) ls.length = some r := by
        have := PySem.seqIndex_of (k := (r : Int)) (n := ls.length) (by omega) (by omega)
        rw [Int.toNat_natCast] at this
        exact this
      refine ⟨L, ls, (r : Int), r, ls[r], rfl, rfl, hL4, by omega, by omega, hix, hy, ?_⟩
      have hF5 : upd H4 L (.lst (ls.eraseIdx r)) F = some (.lst fs) := by rw [upd_ne (Ne.symm nLF)]; exact hF4
      refine ⟨F, fs, ls[r], rfl, rfl, hF5, by rw [sizeLine_eq]; omega, ?_⟩
      refine ⟨fun b o hb q => ?_, (hh4.upd nLh nLc).upd nFh nFc, ⟨ls.eraseIdx r, fs ++ [ls[r]], ?_, upd_same, ?_, by rw [List.length_append, fl]; rfl⟩, _, rfl⟩
      · rw [upd_ne (ne_of_none q nFH), upd_ne (ne_of_none q nL)]
        exact eb4 _ _ hb (eb3 _ _ hb q)
      · rw [upd_ne nLF, upd_same]
      · refine List.Perm.trans ?_ pm
        rw [List.append_assoc]
        refine List.Perm.append_left _ ?_
        exact cut_perm _ r ls[r] hy
    · rintro σ H3 ⟨eb3, hh3, ⟨ls, fs, hL3, hF3, pm, fl⟩, v, rfl⟩
      have plen : fs.length + ls.length = xs.length := by rw [← List.length_append]; exact pm.length_eq
      have l0 : ls = [] := List.length_eq_zero_iff.mp (by omega)
      rw [l0, List.append_nil] at pm
      exact ⟨_, rfl, k H3 F fs eb3 nFH hF3 pm hh3⟩
end
end Spt

set_option Elab.async false
set_option linter.all false
set_option maxRecDepth 100000
set_option maxHeartbeats 8000000
/-! the law: some_tree, some_links -/
namespace Spt
open PySem PySem.Spec PyProof.Rows L2
def LkO (H : Hp) (as : List Addr) (es : List (Nat × Nat)) : Prop := Paired (fun (a : Addr) (e : Nat × Nat) => H a = some (.tup [vn e.1, vn e.2])) as es
theorem LkO.mono {H H' : Hp} {as es} (f : ∀ a xs, H a = some (.tup xs) → H' a = some (.tup xs)) (h : LkO H as es) : LkO H' as es := Paired.imp (F := fun (a : Addr) (e : Nat × Nat) => H a = some (.tup [vn e.1, vn e.2])) (fun _ _ q => f _ _ q) h
theorem HandO.tupKeep {H H' : Hp} {h ca : Addr} {cs : List Int} (hh : HandO H h ca cs) (e : EBut h H H') : ∀ a xs, H a = some (.tup xs) → H' a = some (.tup xs) := fun a xs q => e _ _ (hh.ne_of q (fun _ _ _ z => nomatch z)) q
theorem upd_tup {H : Hp} {D : Addr} {o : HO} {xs : List V} (hD : H D = some (.lst xs)) : ∀ a ys, H a = some (.tup ys) → upd H D o a = some (.tup ys) := fun a ys q => by
  rw [upd_ne (L2.ne_of q hD (fun z => nomatch z))]; exact q
section
variable {P : Program} {w : World} {K : PySem.W.Frag} {mg : Str → Option Value} {base : Heap}
theorem scLSomeTree : FnScope ["_law_hand_here", "_law_many", "_law_root", "_law_heard", "_law_found", "_law_is_deep", "_law_place", "_law_one"] ["_law_hand_here", "_law_many", "_law_root"] (defScope sLSomeTree) := ⟨rfl, rfl, rfl, by decide +kernel, rfl, by decide +kernel, by decide +kernel⟩
def spLSomeTree : Sp := fun vs H Q _ => ∃ (h ca : Addr) (cs : List Int) (n root : Nat), vs = [.ref h, vn n, vn root] ∧ HandO H h ca cs ∧ 2 ≤ n ∧ n ≤ 10 ∧ root < n ∧ ∀ H' F as es, EBut h H H' → H F = none → H' F = some (.lst (as.map V.ref)) → LkO H' as es → Links n es → es.length ≤ n → HandO H' h ca cs → Q (.ref F) H'
theorem okLSomeTree (T : Txt K mg) : FnK P w K mg base CX0 4 (He.ga K "_law_some_tree") ["_law_hand_here", "_law_many", "_law_root"] spLSomeTree := by
  refine FnK.of T.d_LSomeTree scLSomeTree (fun _ _ _ _ _ _ us hl => match us, hl with | [_, _, _], _ => rfl) (fun vs H Q E h => ?_) (fun cdv A outer s H vs Q E hr h => ?_)
  · obtain ⟨h, ca, cs, n, root, rfl, _⟩ := h
    rfl
  · obtain ⟨h, ca, cs, n, root, rfl, hh, n2, n10, hroot, k⟩ := h
    refine ⟨_, pss_cons (ps_par3 (i := 3) (j := 4) (l := 5) rfl scLSomeTree.nd rfl rfl rfl (by decide) (by decide) (by decide) rfl rfl rfl (a3 (pe_lst (a1 (pv 2))) (pe_lst pa_nil) (pe_cmpR op_eq (cl ((okLDraw T).mono (by decide)) hr T.g__law_draw (a2 (pv 0) pe_int)) pe_int (nomark _))) rfl)
      (pss_cons (ps_for PassesOwn.never rfl (pi_list (cl (okLShuffled T) hr T.g__law_shuffled (a2 (pv 0) (lct 6 (pi_range1 rfl T.f_range (a1 (pv 1))) (fun _ _ _ _ _ => pt_cmpR op_ne (pv 6) (pv 2) (nomark _)) (fun _ _ _ _ _ => pv 6) scLSomeTree)))) (pg_name (i := 6) scLSomeTree.nd rfl (.inl rfl))
        (pss_cons (ps_set (i := 7) scLSomeTree.nd rfl (.inl rfl) (pe_ifExp (pt_val (pv 5)) (pe_ix ix_list (pv 3) (pe_un un_neg pe_int) (fun _ _ => rfl)) (pe_ix ix_list (pv 3) (cl ((okLDraw T).mono (by decide)) hr T.g__law_draw (a2 (pv 0) (cb call_len T.f_len (a1 (pv 3))))) (fun _ _ => rfl))))
        (pss_cons (ps_expr (pe_bm PySem.F.plainAttrs_list PySem.F.slot_list_append PySem.F.type_list_append mt_append (pv 4) (a1 (pe_tup (a2 (pv 7) (pv 6))))))
        (pss_one (ps_expr (pe_bm PySem.F.plainAttrs_list PySem.F.slot_list_append PySem.F.type_list_append mt_append (pv 3) (a1 (pv 6))))))))
      (pss_one (ps_ret (pv 4)))), ?_⟩
    -- heard, found, is_deep
    refine ⟨_, rfl, by show 1 ≤ sizeLine; rw [sizeLine_eq]; decide, fun G nG => ?_⟩
    have s1 : Same H (upd H G (.lst [vn root])) := same_new nG
    have hG1 : upd H G (.lst [vn root]) G = some (.lst (vns [root])) := upd_same
    refine ⟨by show 0 ≤ sizeLine; omega, fun F nF => ?_⟩
    have nGF : G ≠ F := ne_of_none hG1 nF
    have s2 : Same (upd H G (.lst [vn root])) (upd (upd H G (.lst [vn root])) F (.lst [])) := same_new nF
    obtain ⟨nGh, nGc⟩ := hh.new nG
    obtain ⟨nFh, nFc⟩ := (hh.same s1).new nF
    have nFH : H F = none := none_of s1 nF
    have s12 := s1.trans s2
    have hG2 := s2 _ _ hG1
    have hF2 : upd (upd H G (.lst [vn root])) F (.lst []) F = some (.lst []) := upd_same
    revert hG2 hF2 s12
    generalize upd (upd H G (.lst [vn root])) F (.lst []) = H2
    intro s12 hG2 hF2
    refine ⟨_, rfl, h, ca, cs, 4, rfl, hh.same s12, by decide, by decide, fun H3 r hr3 eb3 hh3 => ?_⟩
    refine ⟨rfl, _, _, _, rfl, ?_⟩
    have eb03 : EBut h H H3 := fun b o hb q => eb3 _ _ hb (s12 _ _ q)
    have hG3 := eb3 _ _ nGh hG2
    have hF3 := eb3 _ _ nFh hF2
    generalize decide (vn r = V.int 0) = deep
    -- shuffled places
    refine ⟨_, rfl, _, rfl, (n : Int), rfl, by omega, by omega, fun D nD => ?_⟩
    rw [Int.toNat_natCast]
    refine comp_range (lo := 0) (n := n) (fun x => !decide (x = root)) (fun _ x y => y = vn x) nD (by rw [sizeLine_eq]; omega) (fun _ _ _ _ _ h => h) (fun _ => rfl) (fun x hx H4 s4 Qb q => ?_) (fun x hx _ H4 s4 _ Qv q => ?_) (fun H4 ys s4 hD4 rr => ?_)
    · refine ⟨_, rfl, _, rfl, rfl, _, rfl, ?_⟩
      have e : (!decide (V.int (0 + (x : Int)) = vn root)) = !decide (x = root) := by
        have : V.int (0 + (x : Int)) = vn x := by unfold vn; rw [Int.zero_add]
        rw [this, dec_vn]
        congr 1
      rw [e]
      exact q H4 (Same.refl _)
    · refine ⟨_, rfl, q _ H4 (Same.refl _) ?_⟩
      unfold vn
      rw [Int.zero_add]
    have ey := Paired.eq_map rr
    subst ey
    have plen : ((List.range n).filter fun x => !decide (x = root)).length ≤ n := by
      have := List.length_filter_le (fun x => !decide (x = root)) (List.range n)
      rw [List.length_range] at this
      exact this
    refine ⟨h, ca, D, cs, _, rfl, hh3.same s4, SqL.of hD4, by rw [List.length_map]; omega, fun H5 S ys eb5 nS hS5 pm hh5 => ?_⟩
    obtain ⟨pl, pp, rfl⟩ := perm_of_map vn pm _ rfl
    have eb05 : EBut h H H5 := fun b o hb q => eb5 _ _ hb (s4 _ _ (eb03 _ _ hb q))
    have hG5 := eb5 _ _ nGh (s4 _ _ hG3)
    have hF5 := eb5 _ _ nFh (s4 _ _ hF3)
    have nGS : G ≠ S := ne_of_none (s4 _ _ hG3) nS
    have nFS : F ≠ S := ne_of_none (s4 _ _ hF3) nS
    have nSh : S ≠ h := ((hh3.same s4).new nS).1
    have pnd : pl.Nodup := pp.nodup_iff.mpr (List.nodup_range.filter _)
    have pmem : ∀ x ∈ pl, x < n ∧ x ≠ root := fun x hx => by
      obtain ⟨q1, q2⟩ := List.mem_filter.mp (pp.mem_iff.mp hx)
      rw [Bool.not_eq_true', decide_eq_false_iff_not] at q2
      exact ⟨List.mem_range.mp q1, q2⟩
    have pl10 : pl.length ≤ n := by rw [pp.length_eq]; exact plen
    refine ⟨S, rfl, ⟨_, SqL.of hS5⟩, for_list (K := K) (a := S) (xs := vns pl) (fun i σ H' => EBut h H H' ∧ HandO H' h ca cs ∧ H' S = some (.lst (vns pl)) ∧ H' G = some (.lst (vns (root :: pl.take i))) ∧ (∃ as es, H' F = some (.lst (as.map V.ref)) ∧ LkO H' as es ∧ Links n es ∧ es.length = i) ∧ ∃ v6 v7, σ = [some (.ref h), some (vn n), some (vn root), some (.ref G), some (.ref F), some (.bl deep), v6, v7])
      ⟨eb05, hh5, hS5, by rw [List.take_zero]; exact hG5, ⟨[], [], hF5, .nil, fun _ h => (nomatch h), rfl⟩, none, none, rfl⟩ (fun i σ H' _ h => SqL.of h.2.2.1) ?_ ?_⟩
    · rintro i x σ H6 hi ⟨eb6, hh6, hS6, hG6, ⟨as, es, hF6, lk6, ln6, el⟩, v6, v7, rfl⟩
      obtain ⟨p, hp, rfl⟩ := vns_get hi
      obtain ⟨hpn, hpr⟩ := pmem p (List.mem_of_getElem? hp)
      have hi' := (List.getElem?_eq_some_iff.mp hp).1
      have asl : as.length = es.length := Paired.len lk6
      -- where from
      have fin : ∀ (H7 : Hp) (one : Nat), EBut h H6 H7 → HandO H7 h ca cs → one ∈ root :: pl.take i → ∀ p1, H7 p1 = none →
          upd H7 p1 (.tup [vn one, vn p]) F = some (.lst (as.map V.ref)) ∧ upd (upd H7 p1 (.tup [vn one, vn p])) F (.lst (as.map V.ref ++ [.ref p1])) G = some (.lst (vns (root :: pl.take i))) ∧
          ∀ v6 v7, (fun i σ H' => EBut h H H' ∧ HandO H' h ca cs ∧ H' S = some (.lst (vns pl)) ∧ H' G = some (.lst (vns (root :: pl.take i))) ∧ (∃ as es, H' F = some (.lst (as.map V.ref)) ∧ LkO H' as es ∧ Links n es ∧ es.length = i) ∧ ∃ v6 v7, σ = [some (.ref h), some (vn n), some (vn root), some (.ref G), some (.ref F), some (.bl deep), v6, v7]) (i + 1)
            [some (.ref h), some (vn n), some (vn root), some (.ref G), some (.ref F), some (.bl deep), v6, v7] (upd (upd (upd H7 p1 (.tup [vn one, vn p])) F (.lst (as.map V.ref ++ [.ref p1]))) G (.lst (vns (root :: pl.take i) ++ [vn p]))) := by
        intro H7 one e7 hh7 hm p1 np1
        have s8 : Same H7 (upd H7 p1 (.tup [vn one, vn p])) := same_new np1
        have hF8 := s8 _ _ (e7 _ _ nFh hF6)
        have hG8 := s8 _ _ (e7 _ _ nGh hG6)
        have hG9 : upd (upd H7 p1 (.tup [vn one, vn p])) F (.lst (as.map V.ref ++ [.ref p1])) G = some (.lst (vns (root :: pl.take i))) := by rw [upd_ne nGF]; exact hG8
        refine ⟨hF8, hG9, fun v6 v7 => ⟨fun b o hb q => ?_, ?_, ?_, ?_, ⟨as ++ [p1], es ++ [(one, p)], ?_, ?_, fun e he => ?_, by rw [List.length_append, el]; rfl⟩, v6, v7, rfl⟩⟩
        · rw [upd_ne (ne_of_none q nG), upd_ne (ne_of_none q nFH)]
          exact s8 _ _ (e7 _ _ hb (eb6 _ _ hb q))
        · exact ((hh7.same s8).upd nFh nFc).upd nGh nGc
        · rw [upd_ne (Ne.symm nGS), upd_ne (Ne.symm nFS)]
          exact s8 _ _ (e7 _ _ nSh hS6)
        · rw [upd_same, take_snoc hp]
          unfold vns
          rw [← List.cons_append, List.map_append]
          rfl
        · rw [upd_ne (Ne.symm nGF), upd_same, List.map_append]; rfl
        · have lk9 : LkO (upd (upd (upd H7 p1 (.tup [vn one, vn p])) F (.lst (as.map V.ref ++ [.ref p1]))) G (.lst (vns (root :: pl.take i) ++ [vn p]))) as es := lk6.mono fun a xs q => upd_tup hG9 _ _ (upd_tup hF8 _ _ (s8 _ _ (hh6.tupKeep e7 _ _ q)))
          exact Paired.snoc lk9 (upd_tup hG9 _ _ (upd_tup hF8 _ _ upd_same))
        · rcases List.mem_append.mp he with he | he
          · exact ln6 e he
          · rw [List.mem_singleton.mp he]
            refine ⟨?_, hpn, ?_⟩
            · rcases List.mem_cons.mp hm with rfl | hm
              · exact hroot
              · exact (pmem one (List.mem_of_mem_take hm)).1
            · rcases List.mem_cons.mp hm with rfl | hm
              · exact Ne.symm hpr
              · intro z
                have z : one = p := z
                rw [z] at hm
                obtain ⟨j2, hj2⟩ := List.getElem?_of_mem hm
                rw [List.getElem?_take] at hj2
                split at hj2
                · rename_i hlt
                  obtain ⟨q1, q2⟩ := List.getElem?_eq_some_iff.mp hj2
                  have := (List.getElem?_inj q1 pnd).mp (hj2.trans hp.symm)
                  omega
                · cases hj2
      have hl1 : 0 < (root :: pl.take i).length := by rw [List.length_cons]; omega
      refine ⟨_, rfl, deep, rfl, ?_⟩
      cases hdeep : deep with
      | true =>
        refine iteT ?_
        obtain ⟨hd, hdm⟩ : ∃ hd, (root :: pl.take i).getLast? = some hd := ⟨_, List.getLast?_eq_some_getLast (by simp)⟩
        obtain ⟨ini, hini⟩ := List.getLast?_eq_some_iff.mp hdm
        have hat : atI (vns (root :: pl.take i)) (-1) = some (vn hd) := by
          rw [hini, vns_app]
          exact atI_last _ _
        refine ⟨_, rfl, _, rfl, G, _, -1, vn hd, rfl, rfl, SqL.of hG6, hat, ?_⟩
        have hmm : hd ∈ root :: pl.take i := by rw [hini]; exact List.mem_append_right _ List.mem_cons_self
        refine ⟨_, rfl, .inl ⟨rfl, _, SqL.of hF6⟩, _, rfl, _, rfl, by show 2 ≤ sizeLine; rw [sizeLine_eq]; decide, fun p1 np1 => ?_⟩
        obtain ⟨hF8, hG9, hfin⟩ := fin H6 hd (fun _ _ _ q => q) hh6 hmm p1 np1
        refine ⟨F, _, _, rfl, rfl, hF8, by rw [List.length_map, sizeLine_eq]; omega, ?_⟩
        refine ⟨_, rfl, .inl ⟨rfl, _, SqL.of hG9⟩, _, rfl, G, _, _, rfl, rfl, hG9, by rw [vns_len, List.length_cons, List.length_take, sizeLine_eq]; omega, ?_⟩
        rw [hdeep] at hfin
        exact hfin _ _
      | false =>
        refine iteF ?_
        refine ⟨_, rfl, _, rfl, _, rfl, _, (root :: pl.take i).length, rfl, .inl ⟨_, SqL.of hG6, (vns_len _).symm⟩, h, ca, cs, (root :: pl.take i).length, rfl, hh6, hl1, by rw [List.length_cons, List.length_take]; omega, fun H7 r hr7 eb7 hh7 => ?_⟩
        have hmm : (root :: pl.take i)[r] ∈ root :: pl.take i := List.getElem_mem hr7
        have hG7 := eb7 _ _ nGh hG6
        have hF7 := eb7 _ _ nFh hF6
        refine ⟨G, _, (r : Nat), vn (root :: pl.take i)[r], rfl, rfl, SqL.of hG7, atI_nat (vns_at (List.getElem?_eq_getElem hr7)), ?_⟩
        refine ⟨_, rfl, .inl ⟨rfl, _, SqL.of hF7⟩, _, rfl, _, rfl, by show 2 ≤ sizeLine; rw [sizeLine_eq]; decide, fun p1 np1 => ?_⟩
        obtain ⟨hF8, hG9, hfin⟩ := fin H7 _ eb7 hh7 hmm p1 np1
        refine ⟨F, _, _, rfl, rfl, hF8, by rw [List.length_map, sizeLine_eq]; omega, ?_⟩
        refine ⟨_, rfl, .inl ⟨rfl, _, SqL.of hG9⟩, _, rfl, G, _, _, rfl, rfl, hG9, by rw [vns_len, List.length_cons, List.length_take, sizeLine_eq]; omega, ?_⟩
        rw [hdeep] at hfin
        exact hfin _ _
    · rintro σ H6 ⟨eb6, hh6, hS6, hG6, ⟨as, es, hF6, lk6, ln6, el⟩, v6, v7, rfl⟩
      rw [vns_len] at el
      exact ⟨_, rfl, k H6 F as es eb6 nFH hF6 lk6 ln6 (by omega) hh6⟩
end
end Spt

set_option Elab.async false
set_option linter.all false
set_option maxRecDepth 100000
set_option maxHeartbeats 8000000
/-! the law: some_links, parts_of -/
namespace Spt
open PySem PySem.Spec PyProof.Rows L2
theorem vn_add1 (a : Nat) : V.int ((a : Int) + 1) = vn (a + 1) := by unfold vn; rw [Int.natCast_add]; rfl
section
variable {P : Program} {w : World} {K : PySem.W.Frag} {mg : Str → Option Value} {base : Heap}
theorem scLSomeLinks : FnScope ["_law_hand_here", "_law_many", "_law_most", "_law_found", "_law_turn", "_law_one", "_law_link"] ["_law_hand_here", "_law_many", "_law_most"] (defScope sLSomeLinks) := ⟨rfl, rfl, rfl, by decide +kernel, rfl, by decide +kernel, by decide +kernel⟩
def spLSomeLinks : Sp := fun vs H Q _ => ∃ (h ca : Addr) (cs : List Int) (n m : Nat), vs = [.ref h, vn n, vn m] ∧ HandO H h ca cs ∧ 2 ≤ n ∧ n ≤ 10 ∧ m ≤ 100 ∧ ∀ H' F as es, EBut h H H' → H F = none → H' F = some (.lst (as.map V.ref)) → LkO H' as es → Links n es → es.length ≤ m → HandO H' h ca cs → Q (.ref F) H'
theorem okLSomeLinks (T : Txt K mg) : FnK P w K mg base CX0 3 (He.ga K "_law_some_links") ["_law_hand_here", "_law_many", "_law_most"] spLSomeLinks := by
  refine FnK.of T.d_LSomeLinks scLSomeLinks (fun _ _ _ _ _ _ us hl => match us, hl with | [_, _, _], _ => rfl) (fun vs H Q E h => ?_) (fun cdv A outer s H vs Q E hr h => ?_)
  · obtain ⟨h, ca, cs, n, m, rfl, _⟩ := h
    rfl
  · obtain ⟨h, ca, cs, n, m, rfl, hh, n2, n10, m100, k⟩ := h
    refine ⟨_, pss_cons (ps_set (i := 3) scLSomeLinks.nd rfl (.inl rfl) (pe_lst pa_nil))
      (pss_cons (ps_for PassesOwn.never rfl (pi_range1 rfl T.f_range (a1 (cl (okLDraw T) hr T.g__law_draw (a2 (pv 0) (pe_op op_add (pv 2) pe_int))))) (pg_name (i := 4) scLSomeLinks.nd rfl (.inl rfl))
        (pss_cons (ps_set (i := 5) scLSomeLinks.nd rfl (.inl rfl) (cl (okLDraw T) hr T.g__law_draw (a2 (pv 0) (pv 1))))
        (pss_cons (ps_set (i := 6) scLSomeLinks.nd rfl (.inl rfl) (pe_tup (a2 (pv 5) (pe_op op_mod (ct call_int1 T.f_int (a1 (pe_op op_add (pe_op op_add (pv 5) pe_int) (cl (okLDraw T) hr T.g__law_draw (a2 (pv 0) (pe_op op_sub (pv 1) pe_int)))))) (pv 1)))))
        (pss_cons (ps_if (PW.pt (pw_and (pt_cmpR op_gt (cb call_len T.f_len (a1 (pv 3))) pe_int (nomark _)) (pw_and1 (pt_cmpR op_eq (cl (okLDraw T) hr T.g__law_draw (a2 (pv 0) pe_int)) pe_int (nomark _)))))
          (pss_one (ps_set (i := 6) scLSomeLinks.nd rfl (.inl rfl) (pe_ix ix_list (pv 3) (cl (okLDraw T) hr T.g__law_draw (a2 (pv 0) (cb call_len T.f_len (a1 (pv 3))))) (fun _ _ => rfl)))) pss_nil)
        (pss_one (ps_expr (pe_bm PySem.F.plainAttrs_list PySem.F.slot_list_append PySem.F.type_list_append mt_append (pv 3) (a1 (pv 6)))))))))
      (pss_one (ps_ret (pv 3)))), ?_⟩
    refine ⟨by show 0 ≤ sizeLine; omega, fun F nF => ?_⟩
    have s1 : Same H (upd H F (.lst [])) := same_new nF
    obtain ⟨nFh, nFc⟩ := hh.new nF
    have hF1 : upd H F (.lst []) F = some (.lst []) := upd_same
    revert s1 hF1
    generalize upd H F (.lst []) = H1
    intro s1 hF1
    refine ⟨_, rfl, _, rfl, _, _, rfl, rfl, h, ca, cs, m + 1, ?_, hh.same s1, by omega, by omega, fun H2 r hr2 eb2 hh2 => ?_⟩
    · show [V.ref h, V.int ((m : Int) + 1)] = _
      rw [vn_add1]
    have eb02 : EBut h H H2 := fun b o hb q => eb2 _ _ hb (s1 _ _ q)
    have hF2 := eb2 _ _ nFh hF1
    refine ⟨(r : Int), rfl, by omega, by omega, ?_⟩
    rw [Int.toNat_natCast]
    refine for_range (lo := 0) (n := r) (fun i σ H' => EBut h H H' ∧ HandO H' h ca cs ∧ (∃ as es, H' F = some (.lst (as.map V.ref)) ∧ LkO H' as es ∧ Links n es ∧ es.length = i) ∧ ∃ v4 v5 v6, σ = [some (.ref h), some (vn n), some (vn m), some (.ref F), v4, v5, v6])
      ⟨eb02, hh2, ⟨[], [], hF2, .nil, fun _ h => (nomatch h), rfl⟩, none, none, none, rfl⟩ ?_ ?_
    · rintro i σ H3 hi ⟨eb3, hh3, ⟨as, es, hF3, lk3, ln3, el⟩, v4, v5, v6, rfl⟩
      have asl : as.length = es.length := Paired.len lk3
      refine ⟨_, rfl, _, rfl, h, ca, cs, n, rfl, hh3, by omega, by omega, fun H4 one ho eb4 hh4 => ?_⟩
      refine ⟨_, rfl, _, rfl, _, _, rfl, rfl, _, rfl, _, rfl, _, _, rfl, rfl, h, ca, cs, n - 1, ?_, hh4, by omega, by omega, fun H5 d hd eb5 hh5 => ?_⟩
      · have e : V.int ((n : Int) - 1) = vn (n - 1) := by unfold vn; congr 1; omega
        show [V.ref h, V.int ((n : Int) - 1)] = _
        rw [e]
      refine ⟨_, _, rfl, rfl, .inl ⟨_, rfl, _, rfl, _, _, rfl, rfl, by omega, ?_⟩⟩
      have eo : V.int (((one : Int) + 1 + (d : Int)) % (n : Int)) = vn ((one + 1 + d) % n) := by
        unfold vn
        rw [Int.natCast_emod, Int.natCast_add, Int.natCast_add]
        rfl
      refine ⟨by show 2 ≤ sizeLine; rw [sizeLine_eq]; decide, fun p1 np1 => ?_⟩
      show (fun _ => _) _
      have hoth : (one + 1 + d) % n < n := Nat.mod_lt _ (by omega)
      have hne : one ≠ (one + 1 + d) % n := by
        intro z
        by_cases c : one + 1 + d < n
        · rw [Nat.mod_eq_of_lt c] at z; omega
        · have : (one + 1 + d) % n = one + 1 + d - n := by
            rw [Nat.mod_eq_sub_mod (by omega), Nat.mod_eq_of_lt (by omega)]
          omega
      have s6 : Same H5 (upd H5 p1 (.tup [vn one, V.int (((one : Int) + 1 + (d : Int)) % (n : Int))])) := same_new np1
      have hp6 : upd H5 p1 (.tup [vn one, V.int (((one : Int) + 1 + (d : Int)) % (n : Int))]) p1 = some (.tup [vn one, vn ((one + 1 + d) % n)]) := by rw [upd_same, eo]
      have eb35 : EBut h H3 H5 := fun b o hb q => eb5 _ _ hb (eb4 _ _ hb q)
      revert s6 hp6
      generalize upd H5 p1 (.tup [vn one, V.int (((one : Int) + 1 + (d : Int)) % (n : Int))]) = H6
      intro s6 hp6
      have eb36 : EBut h H3 H6 := fun b o hb q => s6 _ _ (eb35 _ _ hb q)
      have hh6 := hh5.same s6
      have hF6 := eb36 _ _ nFh hF3
      have lk6 : LkO H6 as es := lk3.mono (hh3.tupKeep eb36)
      -- appended
      have fin : ∀ (H7 : Hp) (lkA : Addr) (e : Nat × Nat), EBut h H6 H7 → HandO H7 h ca cs → H7 lkA = some (.tup [vn e.1, vn e.2]) → (e.1 < n ∧ e.2 < n ∧ e.1 ≠ e.2) → H7 F = some (.lst (as.map V.ref)) ∧
          ∀ v4 v5 v6, (fun i σ H' => EBut h H H' ∧ HandO H' h ca cs ∧ (∃ as es, H' F = some (.lst (as.map V.ref)) ∧ LkO H' as es ∧ Links n es ∧ es.length = i) ∧ ∃ v4 v5 v6, σ = [some (.ref h), some (vn n), some (vn m), some (.ref F), v4, v5, v6]) (i + 1) [some (.ref h), some (vn n), some (vn m), some (.ref F), v4, v5, v6] (upd H7 F (.lst (as.map V.ref ++ [.ref lkA]))) := by
        intro H7 lkA e e7 hh7 hl hlk
        have hF7 := e7 _ _ nFh hF6
        refine ⟨hF7, fun v4 v5 v6 => ⟨fun b o hb q => ?_, hh7.upd nFh nFc, ⟨as ++ [lkA], es ++ [e], by rw [upd_same, List.map_append]; rfl, ?_, fun x hx => ?_, by rw [List.length_append, el]; rfl⟩, v4, v5, v6, rfl⟩⟩
        · rw [upd_ne (ne_of_none q nF)]
          exact e7 _ _ hb (eb36 _ _ hb (eb3 _ _ hb q))
        · exact Paired.snoc (lk6.mono fun a xs q => upd_tup hF7 _ _ (hh6.tupKeep e7 _ _ q)) (upd_tup hF7 _ _ hl)
        · rcases List.mem_append.mp hx with hx | hx
          · exact ln3 x hx
          · rw [List.mem_singleton.mp hx]; exact hlk
      have plain : ∀ (H7 : Hp), EBut h H6 H7 → HandO H7 h ca cs → H7 p1 = some (.tup [vn one, vn ((one + 1 + d) % n)]) := fun H7 e7 hh7 => hh6.tupKeep e7 _ _ hp6
      refine ⟨_, rfl, _, es.length, rfl, .inl ⟨_, SqL.of hF6, by rw [List.length_map, asl]⟩, _, _, rfl, rfl, ?_⟩
      by_cases c0 : (0 : Int) < (es.length : Int)
      · refine ⟨true, blT c0, ?_⟩
        refine iteT ?_
        refine ⟨_, rfl, h, ca, cs, 6, rfl, hh6, by decide, by decide, fun H7 r7 hr7 eb7 hh7 => ⟨rfl, ?_⟩⟩
        refine ⟨_, rfl, ?_⟩
        cases hz : decide (vn r7 = V.int 0) with
        | true =>
          refine iteT ?_
          have hF7 := eb7 _ _ nFh hF6
          refine ⟨_, rfl, _, rfl, _, rfl, _, es.length, rfl, .inl ⟨_, SqL.of hF7, by rw [List.length_map, asl]⟩, h, ca, cs, es.length, rfl, hh7, by omega, by omega, fun H8 r8 hr8 eb8 hh8 => ?_⟩
          have hF8 := eb8 _ _ nFh hF7
          have e68 : EBut h H6 H8 := fun b o hb q => eb8 _ _ hb (eb7 _ _ hb q)
          have hr8' : r8 < as.length := by omega
          have hat : (as.map V.ref)[r8]? = some (.ref as[r8]) := by rw [List.getElem?_map, List.getElem?_eq_getElem hr8']; rfl
          refine ⟨F, _, (r8 : Nat), .ref as[r8], rfl, rfl, SqL.of hF8, atI_nat hat, ?_⟩
          obtain ⟨e, he1, he2⟩ := Paired.get lk6 (List.getElem?_eq_getElem hr8')
          obtain ⟨g1, g2⟩ := fin H8 as[r8] e e68 hh8 (hh6.tupKeep e68 _ _ he2) (ln3 e (List.mem_of_getElem? he1))
          exact ⟨_, rfl, .inl ⟨rfl, _, SqL.of g1⟩, _, rfl, F, _, _, rfl, rfl, g1, by rw [List.length_map, sizeLine_eq]; omega, g2 _ _ _⟩
        | false =>
          refine iteF ?_
          obtain ⟨g1, g2⟩ := fin H7 p1 (one, (one + 1 + d) % n) eb7 hh7 (plain H7 eb7 hh7) ⟨ho, hoth, hne⟩
          exact ⟨_, rfl, .inl ⟨rfl, _, SqL.of g1⟩, _, rfl, F, _, _, rfl, rfl, g1, by rw [List.length_map, sizeLine_eq]; omega, g2 _ _ _⟩
      · refine ⟨false, blF c0, ?_⟩
        refine iteF (iteF ?_)
        obtain ⟨g1, g2⟩ := fin H6 p1 (one, (one + 1 + d) % n) (fun _ _ _ q => q) hh6 hp6 ⟨ho, hoth, hne⟩
        exact ⟨_, rfl, .inl ⟨rfl, _, SqL.of g1⟩, _, rfl, F, _, _, rfl, rfl, g1, by rw [List.length_map, sizeLine_eq]; omega, g2 _ _ _⟩
    · rintro σ H3 ⟨eb3, hh3, ⟨as, es, hF3, lk3, ln3, el⟩, v4, v5, v6, rfl⟩
      exact ⟨_, rfl, k H3 F as es eb3 nF hF3 lk3 ln3 (by omega) hh3⟩
end
end Spt

set_option Elab.async false
set_option linter.all false
set_option maxRecDepth 100000
set_option maxHeartbeats 8000000
/-! the law: parts_of -/
namespace Spt
open PySem PySem.Spec PyProof.Rows L2
theorem mem_perm_links {n : Nat} {es es' : List (Nat × Nat)} (p : es'.Perm es) (h : Links n es) : Links n es' := fun e he => h e (p.mem_iff.mp he)
theorem LkO.perm {H : Hp} {as : List Addr} {es : List (Nat × Nat)} (lk : LkO H as es) {ys : List V} (p : ys.Perm (as.map V.ref)) : ∃ as' es', ys = as'.map V.ref ∧ LkO H as' es' ∧ es'.Perm es := by
  obtain ⟨ps, p1, p2, p3⟩ := Paired.zipd lk
  rw [p1, List.map_map] at p
  obtain ⟨ps', q1, q2⟩ := perm_of_map _ p _ rfl
  refine ⟨ps'.map (fun x : Addr × (Nat × Nat) => x.1), ps'.map (fun x : Addr × (Nat × Nat) => x.2), by rw [q2, List.map_map], Paired.unzip (F := fun (a : Addr) (e : Nat × Nat) => H a = some (.tup [vn e.1, vn e.2])) fun x hx => p3 x (q1.mem_iff.mp hx), ?_⟩
  rw [p2]
  exact q1.map _
theorem Paired.takeN {α β : Type} {F : α → β → Prop} : ∀ (k : Nat) {l : List α} {m : List β}, Paired F l m → Paired F (l.take k) (m.take k)
  | 0, _, _, _ => .nil
  | k + 1, _, _, .nil => .nil
  | k + 1, _, _, .cons h t => .cons h (Paired.takeN k t)
theorem Paired.eraseN {α β : Type} {F : α → β → Prop} : ∀ (k : Nat) {l : List α} {m : List β}, Paired F l m → Paired F (l.eraseIdx k) (m.eraseIdx k)
  | _, _, _, .nil => .nil
  | 0, _, _, .cons h t => t
  | k + 1, _, _, .cons h t => .cons h (Paired.eraseN k t)
theorem map_cut {α β : Type} (f : α → β) : ∀ (l : List α) (i : Nat), (l.map f).eraseIdx i = (l.eraseIdx i).map f
  | [], _ => rfl
  | _ :: _, 0 => rfl
  | x :: l, i + 1 => by
    rw [List.map_cons, List.eraseIdx_cons_succ, List.eraseIdx_cons_succ, List.map_cons, map_cut f l i]
theorem LinksO.mk {H : Hp} {lt : Addr} {as : List Addr} {es : List (Nat × Nat)} (h : H lt = some (.tup (as.map V.ref))) (lk : LkO H as es) : LinksO H lt es := ⟨as, h, lk⟩
section
variable {P : Program} {w : World} {K : PySem.W.Frag} {mg : Str → Option Value} {base : Heap}
theorem scLPartsOf : FnScope ["_law_hand_here", "_law_many", "_law_root", "_law_kind", "_law_links", "_law_turn"] ["_law_hand_here"] (defScope sLPartsOf) := ⟨rfl, rfl, rfl, by decide +kernel, rfl, by decide +kernel, by decide +kernel⟩
def PartsO (H : Hp) (p : Addr) (n root : Nat) (lt : Addr) (es : List (Nat × Nat)) : Prop := H p = some (.tup [vn n, vn root, .ref lt]) ∧ LinksO H lt es ∧ Links n es ∧ 2 ≤ n ∧ n ≤ 10 ∧ root < n ∧ es.length ≤ 60
def spLPartsOf : Sp := fun vs H Q _ => ∃ (h ca : Addr) (cs : List Int), vs = [.ref h] ∧ HandO H h ca cs ∧ ∀ H' p n root lt es, EBut h H H' → PartsO H' p n root lt es → HandO H' h ca cs → Q (.ref p) H'
theorem okLPartsOf (T : Txt K mg) : FnK P w K mg base CX0 5 (He.ga K "_law_parts_of") ["_law_hand_here"] spLPartsOf := by
  refine FnK.of T.d_LPartsOf scLPartsOf (fun _ _ _ _ _ _ us hl => match us, hl with | [_], _ => rfl) (fun vs H Q E h => ?_) (fun cdv A outer s H vs Q E hr h => ?_)
  · obtain ⟨h, ca, cs, rfl, _⟩ := h
    rfl
  · obtain ⟨h, ca, cs, rfl, hh, k⟩ := h
    have dr := (okLDraw (P := P) (w := w) (base := base) T).mono (show 2 ≤ 4 by decide)
    refine ⟨_, pss_cons (ps_set (i := 1) scLPartsOf.nd rfl (.inl rfl) (pe_ix ix_list (pe_lst (pa_cons pe_int (pa_cons pe_int (pa_cons pe_int (pa_cons pe_int (pa_cons pe_int (pa_cons pe_int (pa_cons pe_int (pa_cons pe_int (pa_cons pe_int (pa_cons pe_int (pa_cons pe_int (pa_cons pe_int pa_nil))))))))))))) (cl dr hr T.g__law_draw (a2 (pv 0) pe_int)) (fun _ _ => rfl)))
      (pss_cons (ps_par (i := 2) (j := 3) rfl scLPartsOf.nd rfl rfl (by decide) rfl rfl (a2 (cl dr hr T.g__law_draw (a2 (pv 0) (pv 1))) (cl dr hr T.g__law_draw (a2 (pv 0) pe_int))) rfl)
      (pss_cons (ps_set (i := 4) scLPartsOf.nd rfl (.inl rfl) (pe_lst pa_nil))
      (Evl.pss_cut (ps_if (pt_cmpR op_gt (pv 3) pe_int (nomark _))
        (pss_one (ps_for PassesOwn.never rfl (pi_range1 rfl T.f_range (a1 (pe_op op_add pe_int (cl dr hr T.g__law_draw (a2 (pv 0) (cb (call_max2 rfl) T.f_max (a2 pe_int (pe_op op_fdiv pe_int (pv 1))))))))) (pg_name (i := 5) scLPartsOf.nd rfl (.inl rfl))
          (pss_one (ps_if (pt_cmpR op_le (pe_op op_add (cb call_len T.f_len (a1 (pv 4))) (pv 1)) pe_int (nomark _)) (pss_one (ps_set (i := 4) scLPartsOf.nd rfl (.inl rfl) (pe_op op_cat (pv 4) (cl (okLSomeTree T) hr T.g__law_some_tree (a3 (pv 0) (pv 1) (pv 2)))))) pss_nil)))) pss_nil)
      (pss_cons (ps_set (i := 4) scLPartsOf.nd rfl (.inl rfl) (pe_op op_cat (pv 4) (cl ((okLSomeLinks T).mono (by decide)) hr T.g__law_some_links (a3 (pv 0) (pv 1) (pe_ix ix_list (pe_lst (a2 pe_int pe_int)) (ct call_int1 T.f_int (a1 (pe_cmpR op_eq (pv 3) pe_int (nomark _)))) (fun _ _ => rfl))))))
      (pss_cons (ps_set (i := 4) scLPartsOf.nd rfl (.inl rfl) (pe_slice sl_list (cl ((okLShuffled T).mono (by decide)) hr T.g__law_shuffled (a2 (pv 0) (pv 4))) po_none (po_some pe_int)))
      (pss_cons (ps_for PassesOwn.never rfl (pi_range1 rfl T.f_range (a1 (cl dr hr T.g__law_draw (a2 (pv 0) pe_int)))) (pg_name (i := 5) scLPartsOf.nd rfl (.inl rfl))
        (pss_one (ps_if (PW.pt (pw_and (pt_cmpR op_gt (cb call_len T.f_len (a1 (pv 4))) pe_int (nomark _)) (pw_and1 (pt_cmpR op_eq (pv 3) pe_int (nomark _)))))
          (pss_one (ps_expr (pe_bm PySem.F.plainAttrs_list PySem.F.slot_list_pop PySem.F.type_list_pop mt_popAt (pv 4) (a1 (cl dr hr T.g__law_draw (a2 (pv 0) (cb call_len T.f_len (a1 (pv 4))))))))) pss_nil)))
      (pss_one (ps_ret (pe_tup (a3 (pv 1) (pv 2) (ct call_tuple_of T.f_tuple (a1 (pv 4))))))))))))), ?_⟩
    -- many
    refine ⟨by show 12 ≤ sizeLine; rw [sizeLine_eq]; decide, fun D nD => ?_⟩
    have s1 : Same H (upd H D (.lst (vns [2, 3, 3, 4, 4, 5, 5, 6, 7, 8, 9, 10]))) := same_new nD
    have hD1 : upd H D (.lst (vns [2, 3, 3, 4, 4, 5, 5, 6, 7, 8, 9, 10])) D = some (.lst (vns [2, 3, 3, 4, 4, 5, 5, 6, 7, 8, 9, 10])) := upd_same
    obtain ⟨nDh, _⟩ := hh.new nD
    refine ⟨_, rfl, h, ca, cs, 12, rfl, hh.same s1, by decide, by decide, fun H2 r hr2 eb2 hh2 => ?_⟩
    have hD2 := eb2 _ _ nDh hD1
    have eb02 : EBut h H H2 := fun b o hb q => eb2 _ _ hb (s1 _ _ q)
    obtain ⟨n, hn⟩ : ∃ n, ([2, 3, 3, 4, 4, 5, 5, 6, 7, 8, 9, 10] : List Nat)[r]? = some n := ⟨_, List.getElem?_eq_getElem hr2⟩
    have hnb : 2 ≤ n ∧ n ≤ 10 := (by decide : ∀ n ∈ ([2, 3, 3, 4, 4, 5, 5, 6, 7, 8, 9, 10] : List Nat), 2 ≤ n ∧ n ≤ 10) n (List.mem_of_getElem? hn)
    refine ⟨D, _, (r : Nat), vn n, rfl, rfl, SqL.of hD2, atI_nat (vns_at hn), ?_⟩
    -- root, kind
    refine ⟨_, rfl, _, rfl, h, ca, cs, n, rfl, hh2, by omega, by omega, fun H3 root hroot eb3 hh3 => ?_⟩
    refine ⟨_, rfl, h, ca, cs, 4, rfl, hh3, by decide, by decide, fun H4 kind hkind eb4 hh4 => ?_⟩
    refine ⟨_, _, rfl, ?_⟩
    have eb04 : EBut h H H4 := fun b o hb q => eb4 _ _ hb (eb3 _ _ hb (eb02 _ _ hb q))
    -- links
    refine ⟨by show 0 ≤ sizeLine; omega, fun A0 nA0 => ?_⟩
    have s5 : Same H4 (upd H4 A0 (.lst [])) := same_new nA0
    have hA5 : upd H4 A0 (.lst []) A0 = some (.lst []) := upd_same
    revert s5 hA5
    generalize upd H4 A0 (.lst []) = H5
    intro s5 hA5
    have eb05 : EBut h H H5 := fun b o hb q => s5 _ _ (eb04 _ _ hb q)
    have hh5 := hh4.same s5
    obtain ⟨nA0h, _⟩ := hh4.new nA0
    -- what stands: links at an address, at most b of them
    let Pv : Nat → L2.St → Hp → Prop := fun b σ H' => EBut h H H' ∧ HandO H' h ca cs ∧ ∃ (A : Addr) (as : List Addr) (es : List (Nat × Nat)), A ≠ h ∧ A ≠ ca ∧ H A = none ∧ H' A = some (.lst (as.map V.ref)) ∧ LkO H' as es ∧ Links n es ∧ es.length ≤ b ∧ ∃ v, σ = [some (.ref h), some (vn n), some (vn root), some (vn kind), some (.ref A), v]
    have none0 : ∀ {H' : Hp} {a : Addr}, EBut h H H' → HandO H' h ca cs → H' a = none → H a = none := fun {H' a} e hx hn => by
      cases q : H a with
      | none => rfl
      | some o =>
        have := e _ _ (hx.new hn).1 q
        rw [hn] at this
        cases this
    have start0 : Pv 52 [some (.ref h), some (vn n), some (vn root), some (vn kind), some (.ref A0), none] H5 := by
      refine ⟨eb05, hh5, A0, [], [], nA0h, (hh4.new nA0).2, none0 eb04 hh4 nA0, hA5, .nil, fun _ h => (nomatch h), Nat.zero_le _, none, rfl⟩
    have asl : ∀ {H' as es}, LkO H' as es → as.length = es.length := fun lk => Paired.len lk
    -- a list put together
    have cat : ∀ (H' : Hp) (A F : Addr) (as as2 : List Addr) (es es2 : List (Nat × Nat)) (b : Nat), EBut h H H' → HandO H' h ca cs → LkO H' as es → LkO H' as2 es2 → Links n es → Links n es2 → es.length + es2.length ≤ b → ∀ p, H' p = none → ∀ v, Pv b [some (.ref h), some (vn n), some (vn root), some (vn kind), some (.ref p), v] (upd H' p (.lst (as.map V.ref ++ as2.map V.ref))) := by
      intro H' A F as as2 es es2 b e1 hh1 l1 l2 k1 k2 hb p np v
      have sp : Same H' (upd H' p (.lst (as.map V.ref ++ as2.map V.ref))) := same_new np
      refine ⟨fun x o hx q => sp _ _ (e1 _ _ hx q), hh1.same sp, p, as ++ as2, es ++ es2, (hh1.new np).1, (hh1.new np).2, none0 e1 hh1 np, by rw [upd_same, List.map_append], Paired.append (l1.mono fun a xs q => sp _ _ q) (l2.mono fun a xs q => sp _ _ q), fun e he => ?_, by rw [List.length_append]; exact hb, v, rfl⟩
      rcases List.mem_append.mp he with he | he
      · exact k1 e he
      · exact k2 e he
    refine ⟨Pv 52, ?_, ?_⟩
    · -- trees
      refine ⟨_, rfl, _, _, rfl, rfl, ?_⟩
      by_cases ck : (0 : Int) < (kind : Int)
      · refine ⟨true, blT ck, ?_⟩
        refine iteT ?_
        have hmax : (if (50 : Int) / (n : Int) > 1 then (50 : Int) / (n : Int) else 1) = ((max 1 (50 / n) : Nat) : Int) := by
          have : (50 : Int) / (n : Int) = ((50 / n : Nat) : Int) := by rw [Int.natCast_ediv]; rfl
          rw [this]
          split <;> omega
        have hb50 : 50 / n ≤ 50 := Nat.div_le_self _ _
        refine ⟨_, rfl, _, rfl, _, _, rfl, rfl, ⟨by omega, by omega⟩, _, _, rfl, h, ca, cs, max 1 (50 / n), ?_, hh5, by omega, by omega, fun H6 r6 hr6 eb6 hh6 => ?_⟩
        · show [V.ref h, V.int (if (50 : Int) / (n : Int) > 1 then (50 : Int) / (n : Int) else 1)] = _
          rw [hmax]
          rfl
        refine ⟨_, _, rfl, rfl, _, rfl, by omega, by omega, ?_⟩
        have e1 : ((1 : Int) + (r6 : Int)).toNat = 1 + r6 := by omega
        rw [e1]
        refine for_range (lo := 0) (n := 1 + r6) (fun _ σ H' => Pv 52 σ H') ⟨fun x o hx q => eb6 _ _ hx (eb05 _ _ hx q), hh6, A0, [], [], nA0h, (hh4.new nA0).2, none0 eb04 hh4 nA0, eb6 _ _ nA0h hA5, .nil, fun _ h => (nomatch h), Nat.zero_le _, none, rfl⟩ ?_ (fun σ H' h => h)
        rintro i σ H7 hi ⟨eb7, hh7, A, as, es, nAh, nAc, nA, hA7, lk7, ln7, el7, v, rfl⟩
        have al := asl lk7
        refine ⟨_, rfl, _, as.length, rfl, .inl ⟨_, SqL.of hA7, by rw [List.length_map]⟩, _, rfl, _, _, rfl, rfl, _, _, rfl, rfl, ?_⟩
        by_cases c5 : ((as.length : Int) + (n : Int)) ≤ 52
        · refine ⟨true, blT c5, ?_⟩
          refine iteT ?_
          refine ⟨_, rfl, _, rfl, _, rfl, _, rfl, h, ca, cs, n, root, rfl, hh7, hnb.1, hnb.2, hroot, fun H8 F as2 es2 eb8 nF hF8 lk8 ln8 el8 hh8 => ?_⟩
          have al2 := asl lk8
          have hA8 := eb8 _ _ nAh hA7
          refine ⟨A, F, _, _, rfl, rfl, hA8, hF8, by rw [List.length_map, List.length_map, sizeLine_eq]; omega, fun p np => ?_⟩
          exact cat H8 A F as as2 es es2 52 (fun x o hx q => eb8 _ _ hx (eb7 _ _ hx q)) hh8 (lk7.mono (hh7.tupKeep eb8)) lk8 ln7 ln8 (by omega) p np _
        · refine ⟨false, blF c5, ?_⟩
          exact iteF ⟨eb7, hh7, A, as, es, nAh, nAc, nA, hA7, lk7, ln7, el7, _, rfl⟩
      · refine ⟨false, blF ck, ?_⟩
        exact iteF start0
    · rintro σ H6 ⟨eb6, hh6, A, as, es, nAh, nAc, nA, hA6, lk6, ln6, el6, v, rfl⟩
      have al := asl lk6
      -- some links more
      refine ⟨_, rfl, _, rfl, _, rfl, by show 2 ≤ sizeLine; rw [sizeLine_eq]; decide, fun B nB => ?_⟩
      have s7 : Same H6 (upd H6 B (.lst (vns [8, 60]))) := same_new nB
      have hB7 : upd H6 B (.lst (vns [8, 60])) B = some (.lst (vns [8, 60])) := upd_same
      refine ⟨_, rfl, rfl, .inr ⟨_, rfl, ?_⟩⟩
      obtain ⟨m, hm, hm60, hmv⟩ : ∃ m : Nat, (∃ j : Nat, (if (decide (vn kind = V.int 0)) = true then (1 : Int) else 0) = (j : Int) ∧ ([8, 60] : List Nat)[j]? = some m) ∧ m ≤ 60 ∧ True := by
        cases decide (vn kind = V.int 0) with
        | true => exact ⟨60, ⟨1, rfl, rfl⟩, by decide, trivial⟩
        | false => exact ⟨8, ⟨0, rfl, rfl⟩, by decide, trivial⟩
      obtain ⟨j, hj1, hj2⟩ := hm
      refine ⟨B, _, (j : Int), vn m, rfl, ?_, SqL.of hB7, atI_nat (vns_at hj2), ?_⟩
      · show V.int (if (decide (vn kind = V.int 0)) = true then (1 : Int) else 0) = _
        rw [hj1]
      refine ⟨h, ca, cs, n, m, rfl, hh6.same s7, hnb.1, hnb.2, by omega, fun H8 F as2 es2 eb8 nF hF8 lk8 ln8 el8 hh8 => ?_⟩
      have al2 := asl lk8
      have hA8 := eb8 _ _ nAh (s7 _ _ hA6)
      have eb08 : EBut h H H8 := fun x o hx q => eb8 _ _ hx (s7 _ _ (eb6 _ _ hx q))
      have lk68 : LkO H8 as es := (lk6.mono fun a xs q => s7 _ _ q).mono ((hh6.same s7).tupKeep eb8)
      refine ⟨A, F, _, _, rfl, rfl, hA8, hF8, by rw [List.length_map, List.length_map, sizeLine_eq]; omega, fun p np => ?_⟩
      obtain ⟨eb9, hh9, A9, as9, es9, nA9h, nA9c, nA9, hA9, lk9, ln9, el9, v9, ev9⟩ := cat H8 A F as as2 es es2 112 eb08 hh8 lk68 lk8 ln6 ln8 (by omega) p np v
      injection ev9 with e1 ev9
      injection ev9 with e1 ev9
      injection ev9 with e1 ev9
      injection ev9 with e1 ev9
      injection ev9 with e1 ev9
      have e1 : p = A9 := by
        injection e1 with e1
        injection e1
      subst e1
      have al9 := asl lk9
      -- shuffled, cut
      refine ⟨_, rfl, _, rfl, h, ca, p, cs, _, rfl, hh9, SqL.of hA9, by rw [List.length_map]; omega, fun H10 S ys eb10 nS hS10 pm hh10 => ?_⟩
      obtain ⟨as', es', rfl, lk', pe'⟩ := lk9.perm pm
      have lk10 : LkO H10 as' es' := lk'.mono (hh9.tupKeep eb10)
      refine ⟨_, rfl, S, _, rfl, SqL.of hS10, fun q nq => ?_⟩
      have hcut : cutV (as'.map V.ref) none (some 60) = (as'.take 60).map V.ref := by
        unfold cutV
        have h1 : HT.sIx (as'.map V.ref).length (as'.map V.ref).length (some 60) = min 60 (as'.map V.ref).length := HT.sIx_nat _ _ 60
        rw [h1, HT.sIx_none, List.drop_zero, Nat.sub_zero, List.map_take]
        by_cases c : 60 ≤ (as'.map V.ref).length
        · rw [Nat.min_eq_left c]
        · rw [Nat.min_eq_right (by omega), List.take_of_length_le (Nat.le_refl _), List.take_of_length_le (by omega)]
      rw [hcut]
      have s11 : Same H10 (upd H10 q (.lst ((as'.take 60).map V.ref))) := same_new nq
      have hq11 : upd H10 q (.lst ((as'.take 60).map V.ref)) q = some (.lst ((as'.take 60).map V.ref)) := upd_same
      obtain ⟨nqh, nqc⟩ := hh10.new nq
      have hh11 := hh10.same s11
      have eb11 : EBut h H (upd H10 q (.lst ((as'.take 60).map V.ref))) := fun x o hx z => s11 _ _ (eb10 _ _ hx (eb9 _ _ hx z))
      have nq0 : H q = none := none0 (fun x o hx z => eb10 _ _ hx (eb9 _ _ hx z)) hh10 nq
      have lk11 : LkO (upd H10 q (.lst ((as'.take 60).map V.ref))) (as'.take 60) (es'.take 60) := Paired.takeN 60 (lk10.mono fun a xs z => s11 _ _ z)
      revert hq11 hh11 eb11 lk11
      generalize upd H10 q (.lst ((as'.take 60).map V.ref)) = H11
      intro hq11 hh11 eb11 lk11
      -- some less
      refine ⟨_, rfl, h, ca, cs, 3, rfl, hh11, by decide, by decide, fun H12 r12 hr12 eb12 hh12 => ?_⟩
      refine ⟨(r12 : Int), rfl, by omega, by omega, ?_⟩
      rw [Int.toNat_natCast]
      refine for_range (lo := 0) (n := r12) (fun _ σ H' => EBut h H H' ∧ HandO H' h ca cs ∧ ∃ (as : List Addr) (es : List (Nat × Nat)), H' q = some (.lst (as.map V.ref)) ∧ LkO H' as es ∧ Links n es ∧ es.length ≤ 60 ∧ ∃ v, σ = [some (.ref h), some (vn n), some (vn root), some (vn kind), some (.ref q), v])
        ⟨fun x o hx z => eb12 _ _ hx (eb11 _ _ hx z), hh12, as'.take 60, es'.take 60, eb12 _ _ nqh hq11, lk11.mono (hh11.tupKeep eb12), fun e he => ln9 e (pe'.mem_iff.mp (List.mem_of_mem_take he)), by rw [List.length_take]; omega, v, rfl⟩ ?_ ?_
      · rintro i σ H13 hi ⟨eb13, hh13, as3, es3, hq13, lk13, ln13, el13, v3, rfl⟩
        have al3 := asl lk13
        refine ⟨_, rfl, _, as3.length, rfl, .inl ⟨_, SqL.of hq13, by rw [List.length_map]⟩, _, _, rfl, rfl, ?_⟩
        by_cases c0 : (0 : Int) < (as3.length : Int)
        · refine ⟨true, blT c0, ?_⟩
          refine iteT ?_
          refine ⟨_, rfl, rfl, _, rfl, ?_⟩
          cases hz : decide (vn kind = V.int 1) with
          | true =>
            refine iteT ?_
            refine ⟨_, rfl, .inl ⟨rfl, _, SqL.of hq13⟩, _, rfl, _, rfl, _, as3.length, rfl, .inl ⟨_, SqL.of hq13, by rw [List.length_map]⟩, h, ca, cs, as3.length, rfl, hh13, by omega, by omega, fun H14 r14 hr14 eb14 hh14 => ?_⟩
            have hq14 := eb14 _ _ nqh hq13
            have hy : (as3.map V.ref)[r14]? = some (.ref as3[r14]) := by rw [List.getElem?_map, List.getElem?_eq_getElem hr14]; rfl
            have hix : seqIndex? (r14 : Int) (as3.map V.ref).length = some r14 := by
              have := PySem.seqIndex_of (k := (r14 : Int)) (n := (as3.map V.ref).length) (by omega) (by rw [List.length_map]; omega)
              rw [Int.toNat_natCast] at this
              exact this
            refine ⟨q, _, (r14 : Int), r14, _, rfl, rfl, hq14, by omega, by omega, hix, hy, ?_⟩
            refine ⟨fun x o hx z => ?_, hh14.upd nqh nqc, as3.eraseIdx r14, es3.eraseIdx r14, by rw [upd_same, map_cut], ?_, fun e he => ln13 e (List.mem_of_mem_eraseIdx he), ?_, _, rfl⟩
            · rw [upd_ne (ne_of_none z nq0)]
              exact eb14 _ _ hx (eb13 _ _ hx z)
            · exact Paired.eraseN r14 (lk13.mono fun a xs z => upd_tup hq14 _ _ (hh13.tupKeep eb14 _ _ z))
            · exact Nat.le_trans (List.length_eraseIdx_le _ _) el13
          | false =>
            refine iteF ?_
            exact ⟨eb13, hh13, as3, es3, hq13, lk13, ln13, el13, _, rfl⟩
        · refine ⟨false, blF c0, ?_⟩
          exact iteF (iteF ⟨eb13, hh13, as3, es3, hq13, lk13, ln13, el13, _, rfl⟩)
      · rintro σ H13 ⟨eb13, hh13, as3, es3, hq13, lk13, ln13, el13, v3, rfl⟩
        refine ⟨_, rfl, _, rfl, _, rfl, q, _, rfl, .inl ⟨SqL.of hq13, fun lt nlt => ?_⟩⟩
        have s14 : Same H13 (upd H13 lt (.tup (as3.map V.ref))) := same_new nlt
        refine ⟨by show 3 ≤ sizeLine; rw [sizeLine_eq]; decide, fun pp npp => ?_⟩
        have s15 : Same (upd H13 lt (.tup (as3.map V.ref))) (upd (upd H13 lt (.tup (as3.map V.ref))) pp (.tup [vn n, vn root, .ref lt])) := same_new npp
        have sA := s14.trans s15
        exact k _ pp n root lt es3 (fun x o hx z => sA _ _ (eb13 _ _ hx z)) ⟨upd_same, LinksO.mk (s15 _ _ upd_same) (lk13.mono fun a xs z => sA _ _ z), ln13, hnb.1, hnb.2, hroot, el13⟩ (hh13.same sA)
end
end Spt

set_option Elab.async false
set_option linter.all false
set_option maxRecDepth 100000
set_option maxHeartbeats 4000000
/-! sorted(a list of (length, lot, mask)) -/
namespace Spt
open PySem PySem.Spec PyProof.Rows L2
theorem ints_at : ∀ {vs : List Value} {ns : List Int}, IntsAre vs ns → ∀ j (h : j < vs.length), ∃ t, vs[j] = .int (ns.getD j 0) t
  | _, _, .nil, j, h => absurd h (Nat.not_lt_zero _)
  | _, _, .cons n t r, 0, h => ⟨t, rfl⟩
  | _, _, .cons n t r, j + 1, h => by
    obtain ⟨t', e⟩ := ints_at r j (Nat.lt_of_succ_lt_succ h)
    exact ⟨t', e⟩
theorem ints_fn : ∀ {vs : List Value} {ns ms : List Int}, IntsAre vs ns → IntsAre vs ms → ns = ms
  | _, _, _, .nil, h => by cases h; rfl
  | _, _, _, .cons n t r, h => by
    cases h with
    | cons _ _ r' => rw [ints_fn r r']
theorem ints_len : ∀ {vs : List Value} {ns : List Int}, IntsAre vs ns → vs.length = ns.length
  | _, _, .nil => rfl
  | _, _, .cons n t r => by rw [List.length_cons, List.length_cons, ints_len r]
theorem all_getD : ∀ {ns ms : List Int}, ((List.range (min ns.length ms.length)).all (fun j => decide (ns.getD j 0 = ms.getD j 0)) && ns.length == ms.length) = decide (ns = ms) := by
  intro ns ms
  by_cases h : ns = ms
  · subst h
    rw [decide_eq_true rfl]
    simp
  · rw [decide_eq_false h]
    cases q : (List.range (min ns.length ms.length)).all (fun j => decide (ns.getD j 0 = ms.getD j 0)) && ns.length == ms.length with
    | false => rfl
    | true =>
      rw [Bool.and_eq_true] at q
      have hl : ns.length = ms.length := by simpa using q.2
      refine absurd (List.ext_getElem hl fun j h1 h2 => ?_) h
      have := List.all_eq_true.mp q.1 j (List.mem_range.mpr (by omega))
      have := of_decide_eq_true this
      rw [List.getD_eq_getElem?_getD, List.getD_eq_getElem?_getD, List.getElem?_eq_getElem h1, List.getElem?_eq_getElem h2] at this
      exact this
theorem isTup_fn {h : Heap} {a : Addr} {i j : Array Value} (h1 : IsTup h a i) (h2 : IsTup h a j) : i = j := by
  obtain ⟨o, e, _, n, d⟩ := h1
  obtain ⟨o', e', _, n', d'⟩ := h2
  rw [e] at e'
  cases e'
  rw [d] at d'
  cases d'
  rfl
theorem eqAt_tupI {A : Around} {s : Shared} {a b : Addr} {its its2 : Array Value} {ns ms : List Int} (hl : IsTup s.heap a its) (hb : IsTup s.heap b its2) (hi : IntsAre its.toList ns) (hj : IntsAre its2.toList ms) (hu : A.units < cLine) :
    SeqAt.EqAt A s (.ref a) (.ref b) (decide (ns = ms)) := by
  by_cases hab : a = b
  · subst hab
    have := isTup_fn hl hb
    subst this
    have := ints_fn hi hj
    subst this
    rw [decide_eq_true rfl]
    exact SeqAt.EqAt.same _
  · refine SeqAt.EqAt.of_refs hab ?_
    have q := SeqAt.RcAt.tuples (A := A) (s := s) (e := fun j => decide (ns.getD j 0 = ms.getD j 0)) hl hb hu (fun j h1 h2 => by
      obtain ⟨t1, e1⟩ := ints_at hi j (by simpa using h1)
      obtain ⟨t2, e2⟩ := ints_at hj j (by simpa using h2)
      rw [Array.getElem_toList] at e1 e2
      rw [e1, e2]
      have q := SeqAt.EqAt.int_int (A := A.in1) (s := s) (ns.getD j 0) t1 (ms.getD j 0) t2
      rw [show ((ns.getD j 0 == ms.getD j 0) = decide (ns.getD j 0 = ms.getD j 0)) from by
        rw [Bool.eq_iff_iff]; simp] at q
      exact q)
    have l1 := ints_len hi
    have l2 := ints_len hj
    rw [Array.length_toList] at l1 l2
    rw [l1, l2, all_getD] at q
    exact q
/-! ### the order of lots is one -/
theorem lexLt_tot : ∀ {a b : List Nat}, lexLt a b = false → a = b ∨ lexLt b a = true
  | [], [], _ => .inl rfl
  | [], _ :: _, h => by simp [lexLt] at h
  | _ :: _, [], _ => .inr rfl
  | x :: a, y :: b, h => by
    unfold lexLt at h ⊢
    by_cases e : x = y
    · subst e
      rw [if_pos rfl] at h ⊢
      rcases lexLt_tot h with q | q
      · exact .inl (by rw [q])
      · exact .inr q
    · rw [if_neg e] at h
      rw [if_neg (fun z => e z.symm)]
      have := of_decide_eq_false h
      exact .inr (decide_eq_true (by omega))
theorem lotLt_tot {a b : List Nat} (h : lotLt a b = false) : a = b ∨ lotLt b a = true := by
  unfold lotLt at *
  rw [Bool.or_eq_false_iff, Bool.and_eq_false_iff] at h
  have h1 := of_decide_eq_false h.1
  by_cases e : a.length = b.length
  · rcases h.2 with q | q
    · exact absurd e (of_decide_eq_false q)
    · rcases lexLt_tot q with q | q
      · exact .inl q
      · refine .inr ?_
        rw [q, decide_eq_true e.symm]
        simp
  · refine .inr ?_
    rw [decide_eq_true (show b.length < a.length by omega)]
    rfl
theorem swo_lot {α : Type} (k : α → List Nat) : SrtO.Swo fun v u => lotLt (k v) (k u) := by
  refine ⟨fun x y h => ?_, fun x y z h1 h2 => ?_⟩
  · show lotLt (k y) (k x) = false
    cases q : lotLt (k y) (k x) with
    | false => rfl
    | true =>
      have := lotLt_trans h q
      rw [lotLt_irrefl] at this
      cases this
  · show lotLt (k z) (k x) = false
    have h1 : lotLt (k y) (k x) = false := h1
    have h2 : lotLt (k z) (k y) = false := h2
    rcases lotLt_tot h1 with e | e
    · rw [← e]; exact h2
    · rcases lotLt_tot h2 with e2 | e2
      · rw [e2]; exact h1
      · cases q : lotLt (k z) (k x) with
        | false => rfl
        | true =>
          have := lotLt_trans (lotLt_trans e e2) q
          rw [lotLt_irrefl] at this
          cases this
/-! ### rows (length, lot, mask) -/
def RowR (h : Heap) (v : Value) (l : List Nat) : Prop := ∃ (a b : Addr) (its : Array Value) (t1 t2 : Tok), v = .ref a ∧ IsTup h a #[.int (l.length : Nat) t1, .ref b, .int (maskOf l : Nat) t2] ∧ IsTup h b its ∧ IntsAre its.toList (l.map fun n : Nat => (n : Int))
theorem RowR.keeps {h h' : Heap} {v : Value} {l : List Nat} (x : RowR h v l) (k : ∀ b o, h.get? b = some o → o.cls = .type "tuple" → h'.get? b = some o) : RowR h' v l := by
  obtain ⟨a, b, its, t1, t2, e, ⟨o, ho, hc, hd⟩, ⟨o', ho', hc', hd'⟩, i⟩ := x
  exact ⟨a, b, its, t1, t2, e, ⟨o, k _ _ ho hc, hc, hd⟩, ⟨o', k _ _ ho' hc', hc', hd'⟩, i⟩
theorem castLen {a b : List Nat} : (((a.length : Nat) : Int) == ((b.length : Nat) : Int)) = decide (a.length = b.length) := by
  rw [Bool.eq_iff_iff, beq_iff_eq, decide_eq_true_eq]
  omega
theorem castMap_inj {a b : List Nat} : (a.map (fun n : Nat => (n : Int)) = b.map fun n : Nat => (n : Int)) ↔ a = b := by
  constructor
  · revert b
    induction a with
    | nil => intro b h; cases b with
      | nil => rfl
      | cons _ _ => cases h
    | cons x a ih => intro b h; cases b with
      | nil => cases h
      | cons y b =>
        rw [List.map_cons, List.map_cons] at h
        injection h with h1 h2
        rw [ih h2, show x = y by omega]
  · intro h; rw [h]
theorem row_cmp {prog : Program} {w : World} {A : Around} {s : Shared} {vs : List Value} {k : Value → List Nat} (hu : A.units < cLine) (hp : ∀ v ∈ vs, RowR s.heap v (k v)) : SrtO.Cmp prog w A s (tuples' true) (fun p => p.1 ∈ vs) (SrtO.lt2 fun v u => lotLt (k v) (k u)) := by
  intro p q hm hm'
  have h1 := hp _ hm
  have h2 := hp _ hm'
  show wpAny (model prog w) A (keyLt' (tuples' true) p.1 q.1) (fun r s' => s' = s ∧ r = lotLt (k p.1) (k q.1)) (fun _ _ => False) s
  generalize k p.1 = l at h1 ⊢
  generalize k q.1 = l' at h2 ⊢
  obtain ⟨a, b, its, t1, t2, e, ⟨o, ho, hc, n, hd⟩, hb, hi⟩ := h1
  obtain ⟨a', b', its', t1', t2', e', ⟨o', ho', hc', n', hd'⟩, hb', hi'⟩ := h2
  rw [e, e']
  refine PySem.W.kat_lt ho hd ho' hd' ?_
  show PySem.W.KatLex prog w A true (decide (3 < 3)) _ [(.int (l.length : Nat) t1, .int (l'.length : Nat) t1'), (.ref b, .ref b'), (.int (maskOf l : Nat) t2, .int (maskOf l' : Nat) t2')] 0 s
  refine PySem.W.kat_cons (SeqAt.EqAt.int_int _ t1 _ t1' prog w _ _ ?_)
  rw [castLen]
  refine PySem.W.kat_go (fun e1 => ?_) (fun e1 => ?_)
  · have el := of_decide_eq_true e1
    refine PySem.W.kat_yes (PySem.W.kat_cons (eqAt_tupI hb hb' hi hi' hu prog w _ _ ?_))
    refine PySem.W.kat_go (fun e2 => ?_) (fun e2 => ?_)
    · have e2 := castMap_inj.mp (of_decide_eq_true e2)
      subst e2
      refine PySem.W.kat_yes (PySem.W.kat_cons (SeqAt.EqAt.int_int _ t2 _ t2' prog w _ _ ?_))
      rw [beq_self_eq_true]
      exact PySem.W.kat_yes (PySem.W.kat_nil ⟨rfl, (lotLt_irrefl l).symm⟩)
    · refine PySem.W.kat_no (PySem.W.kat_one _ _ (HT.lt_tupInts hb hb' hi hi' hu ?_))
      refine (show s = s ∧ HT.lexLt _ _ = lotLt l l' from ⟨rfl, ?_⟩)
      rw [lexLt_int]
      unfold lotLt
      rw [decide_eq_false (show ¬ l.length < l'.length by omega), decide_eq_true el]
      simp
  · have el := of_decide_eq_false e1
    refine PySem.W.kat_no (oneLt_int ⟨rfl, ?_⟩)
    unfold lotLt
    rw [decide_eq_false el]
    simp
theorem firsts_row {h : Heap} : ∀ {vs : List Value}, (∀ v ∈ vs, ∃ l, RowR h v l) → ∃ fs : List Value, PySem.W.KatTups h vs fs ∧ fs.length = vs.length ∧ ∀ f ∈ fs, ∃ x t, f = Value.int x t
  | [], _ => ⟨[], PySem.W.KatTups.nil, rfl, fun _ hm => by simp at hm⟩
  | v :: vs, hp => by
    obtain ⟨fs, h1, h2, h3⟩ := firsts_row fun u hu => hp u (List.mem_cons_of_mem _ hu)
    obtain ⟨l, a, b, its, t1, t2, rfl, ⟨o, ho, hc, n, hd⟩, _⟩ := hp v List.mem_cons_self
    refine ⟨.int (l.length : Nat) t1 :: fs, PySem.W.KatTups.cons ho hc hd rfl h1, by rw [List.length_cons, List.length_cons, h2], fun f hm => ?_⟩
    rcases List.mem_cons.mp hm with e | hm
    · exact ⟨_, _, e⟩
    · exact h3 f hm
theorem rows_sortable {prog : Program} {w : World} {A : Around} {s : Shared} {a : Addr} {vs : List Value} {k : Value → List Nat} (hu : A.units < cLine) (h0 : 0 < vs.length) (hp : ∀ v ∈ vs, RowR s.heap v (k v)) (ha : ∀ o, s.heap.get? a = some o → o.cls ≠ .type "tuple") : SrtO.SortableO prog w A s a vs fun v u => lotLt (k v) (k u) := by
  intro h' keep
  have hp' : ∀ v ∈ vs, RowR h' v (k v) := fun v hm => (hp v hm).keeps fun b o e c => keep b o (fun z => by subst z; exact ha o e c) e
  obtain ⟨fs, h1, h2, h3⟩ := firsts_row fun v hm => ⟨_, hp' v hm⟩
  refine ⟨tuples' true, fun Q E hq => ?_, row_cmp hu hp'⟩
  refine PySem.W.kat_kind (T := .type "int") h1 (by omega) (fun f hm => ?_) (by rfl) ?_
  · obtain ⟨x, t, rfl⟩ := h3 f hm
    exact PySem.W.Looks.now
  · have e : (Value.type "int" != Value.type "tuple") = true := by decide +kernel
    rw [e]
    exact hq
/-- the rows, said of the heap -/
def RowsL (H : Hp) (rows : List (Addr × Addr × List Nat)) : Prop := ∀ r ∈ rows, H r.1 = some (.tup [vn r.2.2.length, .ref r.2.1, vn (maskOf r.2.2)]) ∧ H r.2.1 = some (.tup (vns r.2.2))
theorem vns_inj {a b : List Nat} (h : vns a = vns b) : a = b := by
  rw [← kV_vns, ← kV_vns] at h
  have : ∀ {x y : List Nat}, (x.map numK).map kV = (y.map numK).map kV → x = y := by
    intro x
    induction x with
    | nil => intro y h; cases y with
      | nil => rfl
      | cons _ _ => cases h
    | cons u x ih => intro y h; cases y with
      | nil => cases h
      | cons v y =>
        rw [List.map_cons, List.map_cons, List.map_cons, List.map_cons] at h
        injection h with h1 h2
        have h1 : V.int ((u : Nat) : Int) = V.int ((v : Nat) : Int) := h1
        injection h1 with h1
        rw [ih h2, show u = v by omega]
  exact this h
theorem key_of {H : Hp} {rows : List (Addr × Addr × List Nat)} (hr : RowsL H rows) : ∃ kf : Addr → List Nat, ∀ r ∈ rows, kf r.1 = r.2.2 := by
  classical
  refine ⟨fun b => if h : ∃ r ∈ rows, r.1 = b then (Classical.choose h).2.2 else [], fun r hm => ?_⟩
  have h : ∃ r' ∈ rows, r'.1 = r.1 := ⟨r, hm, rfl⟩
  show (if h : ∃ r' ∈ rows, r'.1 = r.1 then (Classical.choose h).2.2 else []) = _
  rw [dif_pos h]
  obtain ⟨m, e⟩ := Classical.choose_spec h
  revert m e
  generalize Classical.choose h = r'
  intro m e
  obtain ⟨a1, a2⟩ := hr r' m
  obtain ⟨b1, b2⟩ := hr r hm
  rw [e, b1] at a1
  injection a1 with a1
  injection a1 with a1
  injection a1 with _ a1
  injection a1 with a1 _
  injection a1 with a1
  rw [← a1, b2] at a2
  injection a2 with a2
  injection a2 with a2
  exact (vns_inj a2).symm
def rSortedL (K : PySem.W.Frag) : List V → Hp → VK → Prop := fun xs H Q => ∃ (a : Addr) (rows : List (Addr × Addr × List Nat)), xs = [.ref a] ∧ SqL K H a (rows.map fun r => V.ref r.1) ∧ RowsL H rows ∧
  ∀ (rows' : List (Addr × Addr × List Nat)) (p : Addr), rows'.Perm rows → rows'.Pairwise (fun r r' => lotLt r'.2.2 r.2.2 = false) → H p = none → Q (.ref p) (upd H p (.lst (rows'.map fun r => V.ref r.1)))
theorem cr_sortedL {X : Cx} (hu : X.A.in1.in1.units < cLine) : CallR X (.builtin "sorted") (rSortedL X.K) := by
  intro pins s σ H vs us Q I r h
  obtain ⟨a, rows, rfl, hs, hx, q⟩ := h
  obtain ⟨its, rv, hl, hz⟩ := I.list hs
  obtain ⟨u, rfl, ru⟩ := vals1 r
  obtain rfl : u = Value.ref a := ru
  obtain ⟨kf, hkf⟩ := key_of hx
  obtain ⟨e1, e2⟩ := refs_back rv fun x m => by
    obtain ⟨r, _, e⟩ := List.mem_map.mp m
    exact ⟨r.1, e.symm⟩
  have eits : its = rows.map fun r => Value.ref r.1 := by
    have vr : Vals ((rows.map (·.1)).map V.ref) ((rows.map (·.1)).map Value.ref) := vals_refs _
    rw [List.map_map, List.map_map] at vr
    have : ∀ {xs : List V} {us us' : List Value}, Vals xs us → Vals xs us' → (∀ x ∈ xs, ∃ a, x = V.ref a) → us = us' := by
      intro xs us us' h1
      induction h1 generalizing us' with
      | nil => intro h2 _; cases h2; rfl
      | cons r t ih =>
        intro h2 hx
        cases h2 with
        | cons r2 t2 =>
          obtain ⟨a, e⟩ := hx _ List.mem_cons_self
          subst e
          rw [ih t2 fun x hm => hx x (List.mem_cons_of_mem _ hm)]
          rw [show _ = Value.ref a from r, show _ = Value.ref a from r2]
    exact this rv vr fun x m => by
      obtain ⟨r, _, e⟩ := List.mem_map.mp m
      exact ⟨r.1, e.symm⟩
  have hk : ∀ v ∈ its, RowR s.heap v (match v with | .ref b => kf b | _ => []) := fun v hv => by
    rw [eits] at hv
    obtain ⟨r, hm, rfl⟩ := List.mem_map.mp hv
    show RowR s.heap (.ref r.1) (kf r.1)
    rw [hkf r hm]
    obtain ⟨h1, h2⟩ := hx r hm
    obtain ⟨_, its2, r2, o, ho, hc, n, hd⟩ := I.hok _ _ h1
    obtain ⟨its3, r3, h3, _⟩ := I.tuple (SqT.of (K := X.K) h2)
    cases r2 with
    | cons ra r2 =>
      obtain ⟨u2, u3, rfl, rb, rc⟩ := vals2 r2
      obtain ⟨t1, rfl⟩ := ra
      obtain ⟨t2, rfl⟩ := rc
      cases (show u2 = Value.ref _ from rb)
      refine ⟨r.1, r.2.1, its3.toArray, t1, t2, rfl, ⟨o, ho, hc, n, hd⟩, h3, ?_⟩
      rw [vns_eq] at r3
      exact r3.ints
  refine SrtO.sorted_ord (swo_lot (fun v : Value => match v with | .ref b => kf b | _ => [])) hl.isList (by rw [← rv.length]; exact hz) (fun h2 h₁ a' ha' kk => ?_) fun out h1 h2 => ?_
  · refine rows_sortable (s := { s with heap := h₁ }) hu (by omega) (fun v hv => (hk v hv).keeps fun b o e _ => (kk b o e).2) fun o e => ?_
    have e' : some o = some (seqObj "list" its.toArray 0) := e.symm.trans ha'
    cases e'
    intro c
    exact absurd (Value.type.inj c) (by decide)
  · obtain ⟨rows', p', eo⟩ := perm_of_map (fun r : Addr × Addr × List Nat => Value.ref r.1) h2.perm rows eits
    obtain ⟨ep, he'⟩ := PyProof.Rows.sortedAll_at s.heap its out.toArray
    have hlen : (rows'.map fun r => V.ref r.1).length ≤ sizeLine := by
      rw [List.length_map, p'.length_eq]
      rw [List.length_map] at hz
      exact hz
    have vr : Vals (rows'.map fun r => V.ref r.1) out := by
      rw [eo]
      have vr : Vals ((rows'.map (·.1)).map V.ref) ((rows'.map (·.1)).map Value.ref) := vals_refs _
      rw [List.map_map, List.map_map] at vr
      exact vr
    refine ⟨.ref _, upd H (s.heap.objs.size + 1) (.lst (rows'.map fun r => V.ref r.1)), I.laid (t' := s.toks) (fun _ _ => PyProof.Rows.sortedAll_old) (Nat.le_succ _) ⟨hlen, out, ep, vr, he'⟩, rfl, q rows' _ p' ?_ (I.hok.fresh (Nat.le_succ _))⟩
    have h1 : out.Pairwise fun x y => lotLt (match y with | .ref b => kf b | _ => []) (match x with | .ref b => kf b | _ => []) = false := h1
    rw [eo, List.pairwise_map] at h1
    refine List.Pairwise.imp_of_mem (fun {x y} hx' hy' h => ?_) h1
    have h : lotLt (kf y.1) (kf x.1) = false := h
    rw [hkf x (p'.mem_iff.mp hx'), hkf y (p'.mem_iff.mp hy')] at h
    exact h
end Spt

set_option Elab.async false
set_option linter.all false
set_option maxRecDepth 100000
set_option maxHeartbeats 8000000
/-! the law: lots -/
namespace Spt
open PySem PySem.Spec PyProof.Rows L2
theorem mask_bits {n m : Nat} (h2 : 2 ≤ n) (h : n ≤ 10) (m0 : 0 < m) (mn : m < 2 ^ n) : maskOf (bitsOf n m) = m := by
  obtain ⟨l, h1, h3⟩ := List.mem_map.mp (masks_all h2 h m0 mn)
  have := (lots_mem h2 h h1).1
  rw [h3] at this
  rw [this]
  exact h3
def allM (n i : Nat) : List Nat := ((List.range i).map (· + 1)).filter (fun m => decide (m < 2 ^ n))
theorem allM_succ (n i : Nat) : allM n (i + 1) = allM n i ++ if i + 1 < 2 ^ n then [i + 1] else [] := by
  unfold allM
  rw [List.range_succ, List.map_append, List.filter_append]
  congr 1
  rw [List.map_cons, List.map_nil, List.filter_cons]
  by_cases h : i + 1 < 2 ^ n
  · rw [if_pos (decide_eq_true h), if_pos h]; rfl
  · rw [if_neg (by simpa using h), if_neg h]; rfl
theorem mem_allM {n m : Nat} (h : n ≤ 10) : m ∈ allM n 1023 ↔ 0 < m ∧ m < 2 ^ n := by
  unfold allM
  rw [List.mem_filter, List.mem_map, decide_eq_true_eq]
  have : 2 ^ n ≤ 2 ^ 10 := Nat.pow_le_pow_right (by decide) h
  constructor
  · rintro ⟨⟨a, _, rfl⟩, h⟩
    exact ⟨by omega, h⟩
  · rintro ⟨h1, h2⟩
    exact ⟨⟨m - 1, List.mem_range.mpr (by omega), by omega⟩, h2⟩
theorem nodup_map_on {α β : Type} (f : α → β) : ∀ {l : List α}, l.Nodup → (∀ a ∈ l, ∀ b ∈ l, f a = f b → a = b) → (l.map f).Nodup
  | [], _, _ => .nil
  | x :: l, h, g => by
    rw [List.nodup_cons] at h
    rw [List.map_cons, List.nodup_cons]
    refine ⟨fun q => ?_, nodup_map_on f h.2 fun a ha b hb => g a (List.mem_cons_of_mem _ ha) b (List.mem_cons_of_mem _ hb)⟩
    obtain ⟨y, hy, e⟩ := List.mem_map.mp q
    have := g y (List.mem_cons_of_mem _ hy) x List.mem_cons_self e
    rw [← this] at h
    exact h.1 hy
theorem allM_perm {n : Nat} (h2 : 2 ≤ n) (h : n ≤ 10) : ((allM n 1023).map (bitsOf n)).Perm (lots n) := by
  refine (List.perm_ext_iff_of_nodup (nodup_map_on _ ?_ fun a ha b hb e => ?_) (lots_nodup h2 h)).mpr fun l => ?_
  · unfold allM
    exact List.Pairwise.filter _ (nodup_map_on _ List.nodup_range fun a _ b _ e => by omega)
  · obtain ⟨a0, a1⟩ := (mem_allM h).mp ha
    obtain ⟨b0, b1⟩ := (mem_allM h).mp hb
    rw [← mask_bits h2 h a0 a1, e, mask_bits h2 h b0 b1]
  · constructor
    · intro q
      obtain ⟨m, hm, rfl⟩ := List.mem_map.mp q
      obtain ⟨a0, a1⟩ := (mem_allM h).mp hm
      exact lots_of h2 h a0 a1
    · intro q
      obtain ⟨e, m0, mn⟩ := lots_mem h2 h q
      exact List.mem_map.mpr ⟨_, (mem_allM h).mpr ⟨m0, mn⟩, e⟩
theorem rows_lots {n : Nat} (h2 : 2 ≤ n) (h : n ≤ 10) {ls : List (List Nat)} (p : ls.Perm (lots n)) (s : ls.Pairwise fun a b => lotLt b a = false) : ls = lots n := by
  refine List.Perm.eq_of_pairwise (le := fun a b => lotLt b a = false) (fun a b _ _ h1 h2 => ?_) s (List.Pairwise.imp (fun {a b} hab => ?_) (lots_sorted h2 h)) p
  · rcases lotLt_tot h1 with e | e
    · exact e.symm
    · rw [h2] at e; cases e
  · exact (swo_lot id).asym _ _ hab
/-- (lot, mask) -/
def SideR (H : Hp) (p : Addr) (l : List Nat) : Prop := ∃ la, H p = some (.tup [.ref la, vn (maskOf l)]) ∧ H la = some (.tup (vns l))
theorem SideR.mono {H H' : Hp} (f : ∀ a xs, H a = some (.tup xs) → H' a = some (.tup xs)) {p : Addr} {l : List Nat} (h : SideR H p l) : SideR H' p l := by
  obtain ⟨la, h1, h2⟩ := h
  exact ⟨la, f _ _ h1, f _ _ h2⟩
def LotsP (H : Hp) (ps : List Addr) (ls : List (List Nat)) : Prop := Paired (SideR H) ps ls
theorem LotsP.mono {H H' : Hp} (f : ∀ a xs, H a = some (.tup xs) → H' a = some (.tup xs)) {ps ls} (h : LotsP H ps ls) : LotsP H' ps ls := Paired.imp (F := SideR H) (fun _ _ q => q.mono f) h
theorem RowsL.mono {H H' : Hp} (f : ∀ a xs, H a = some (.tup xs) → H' a = some (.tup xs)) {rows} (h : RowsL H rows) : RowsL H' rows := fun r hr => ⟨f _ _ (h r hr).1, f _ _ (h r hr).2⟩
section
variable {P : Program} {w : World} {K : PySem.W.Frag} {mg : Str → Option Value} {base : Heap}
theorem scLLots : FnScope ["_law_many", "_law_found", "_law_mask", "_law_lot", "_law_place", "_law_row"] ["_law_many"] (defScope sLLots) := ⟨rfl, rfl, rfl, by decide +kernel, rfl, by decide +kernel, by decide +kernel⟩
def spLLots : Sp := fun vs H Q _ => ∃ n : Nat, vs = [vn n] ∧ 2 ≤ n ∧ n ≤ 10 ∧ ∀ H' D ps, Same H H' → H D = none → H' D = some (.lst (ps.map V.ref)) → LotsP H' ps (lots n) → Q (.ref D) H'
theorem Room.u22 {k : Nat} {A : Around} (r : Room k A) : A.in1.in1.units < cLine := by
  have := r.units
  show A.units + 1 + 1 < cLine
  omega
theorem okLLots (T : Txt K mg) : FnK P w K mg base CX0 1 (He.ga K "_law_lots") ["_law_many"] spLLots := by
  refine FnK.of T.d_LLots scLLots (fun _ _ _ _ _ _ us hl => match us, hl with | [_], _ => rfl) (fun vs H Q E h => ?_) (fun cdv A outer s H vs Q E hr h => ?_)
  · obtain ⟨n, rfl, _⟩ := h
    rfl
  · obtain ⟨n, rfl, h2, h10, k⟩ := h
    refine ⟨_, pss_cons (ps_set (i := 1) scLLots.nd rfl (.inl rfl) (pe_lst pa_nil))
      (pss_cons (ps_for PassesOwn.never rfl (pi_range2 rfl T.f_range (a2 pe_int (pe_op op_pow pe_int pe_int))) (pg_name (i := 2) scLLots.nd rfl (.inr rfl))
        (pss_one (ps_if (pt_cmpR op_lt (pv 2) (pe_op op_shl pe_int (pv 0)) (nomark _))
          (pss_cons (ps_set (i := 3) scLLots.nd rfl (.inl rfl) (ct call_tuple_of T.f_tuple (a1 (lct 4 (pi_range1 rfl T.f_range (a1 (pv 0))) (fun _ _ _ _ _ => pt_cmpR op_eq (pe_op op_and (pe_op op_shr (pv 2) (pv 4)) pe_int) pe_int (nomark _)) (fun _ _ _ _ _ => pv 4) scLLots))))
          (pss_one (ps_expr (pe_bm PySem.F.plainAttrs_list PySem.F.slot_list_append PySem.F.type_list_append mt_append (pv 1) (a1 (pe_tup (a3 (cb call_len T.f_len (a1 (pv 3))) (pv 3) (pv 2))))))))
          pss_nil)))
      (pss_one (ps_ret (lcn 5 (pi_list (cb (cr_sortedL (Room.u22 hr)) T.f_sorted (a1 (pv 1)))) (fun _ _ _ _ _ => pe_tup (a2 (pe_ix (ixT K) (pv 5) pe_int (fun _ _ => rfl)) (pe_ix (ixT K) (pv 5) pe_int (fun _ _ => rfl)))) scLLots)))), ?_⟩
    have b10 : 2 ^ n ≤ 2 ^ 10 := Nat.pow_le_pow_right (by decide) h10
    refine ⟨by show 0 ≤ sizeLine; omega, fun F nF => ?_⟩
    refine ⟨_, _, rfl, rfl, ⟨by decide, by decide, by decide⟩, 1, (2 : Int) ^ (10 : Int).toNat, rfl, ⟨by decide, by decide, by decide, by decide⟩, ?_⟩
    have e : ((2 : Int) ^ (10 : Int).toNat - 1).toNat = 1023 := by decide
    rw [e]
    refine for_range (lo := 1) (n := 1023) (fun i σ H1 => Same H H1 ∧ ∃ (rows : List (Addr × Addr × List Nat)) (v2 v3 v4 v5 : Option V), σ = [some (vn n), some (.ref F), v2, v3, v4, v5] ∧ H1 F = some (.lst (rows.map fun r => V.ref r.1)) ∧ RowsL H1 rows ∧ rows.map (fun r => r.2.2) = (allM n i).map (bitsOf n) ∧ rows.length ≤ i) ⟨same_new nF, [], none, none, none, none, rfl, upd_same, fun _ h => (nomatch h), rfl, Nat.le_refl _⟩ ?_ ?_
    · rintro i σ H1 hi ⟨s1, rows, v2, v3, v4, v5, rfl, h1, hr1, hl1, len1⟩
      have ei : (1 : Int) + (i : Int) = ((i + 1 : Nat) : Int) := by omega
      have esh : (1 : Int) * 2 ^ (n : Int).toNat = ((2 ^ n : Nat) : Int) := by rw [Int.toNat_natCast, Int.one_mul, Int.natCast_pow]; rfl
      rw [ei]
      refine ⟨_, rfl, _, rfl, _, _, rfl, rfl, ⟨by omega, by omega, by decide⟩, _, _, rfl, rfl, ?_⟩
      rw [esh]
      by_cases hlt : i + 1 < 2 ^ n
      · refine ⟨true, blT (by omega), ?_⟩
        refine iteT ?_
        refine ⟨_, rfl, (n : Int), rfl, by omega, by omega, fun D nD => ?_⟩
        rw [Int.toNat_natCast]
        refine comp_range (lo := 0) (n := n) (fun p => (i + 1).testBit p) (fun _ x y => y = vn x) nD (by rw [sizeLine_eq]; omega) (fun _ _ _ _ _ h => h) (fun _ => rfl) (fun x hx H4 s4 Qb q => ?_) (fun x hx _ H4 s4 _ Qv q => ?_) (fun H4 ys s4 hD4 rr => ?_)
        · have e0 : (0 : Int) + (x : Int) = (x : Int) := Int.zero_add _
          rw [e0]
          refine ⟨_, rfl, _, rfl, _, _, rfl, rfl, Int.natCast_nonneg _, _, _, rfl, rfl, rfl, ?_⟩
          refine ⟨_, rfl, ?_⟩
          show Qb (decide (V.int (Builtin.bitAnd (((i + 1 : Nat) : Int) / 2 ^ (x : Int).toNat) 1) = V.int 1)) H4
          rw [bit1]
          exact q H4 (Same.refl _)
        · exact ⟨_, rfl, q _ H4 (Same.refl _) (by show V.int (0 + (x : Int)) = vn x; rw [Int.zero_add]; rfl)⟩
        · have ey := Paired.eq_map rr
          have ey : ys = vns (bitsOf n (i + 1)) := ey
          subst ey
          have nFD : F ≠ D := ne_of_none h1 nD
          have h4 := s4 _ _ h1
          have hm := mask_bits h2 h10 (Nat.succ_pos i) hlt
          refine ⟨D, _, rfl, .inl ⟨SqL.of hD4, fun la nla => ?_⟩⟩
          have s5 : Same H4 (upd H4 la (.tup (vns (bitsOf n (i + 1))))) := same_new nla
          have hla : upd H4 la (.tup (vns (bitsOf n (i + 1)))) la = some (.tup (vns (bitsOf n (i + 1)))) := upd_same
          have h5 := s5 _ _ h4
          revert s5 hla h5
          generalize upd H4 la (.tup (vns (bitsOf n (i + 1)))) = H5
          intro s5 hla h5
          refine ⟨_, rfl, .inl ⟨rfl, _, SqL.of h5⟩, _, rfl, _, (bitsOf n (i + 1)).length, rfl, .inr ⟨_, SqT.of hla, (vns_len _).symm⟩, _, rfl, _, rfl, by show 3 ≤ sizeLine; rw [sizeLine_eq]; decide, fun p np => ?_⟩
          have s6 : Same H5 (upd H5 p (.tup [vn (bitsOf n (i + 1)).length, .ref la, vn (i + 1)])) := same_new np
          have hp6 : upd H5 p (.tup [vn (bitsOf n (i + 1)).length, .ref la, vn (i + 1)]) p = some (.tup [vn (bitsOf n (i + 1)).length, .ref la, vn (i + 1)]) := upd_same
          have h6 := s6 _ _ h5
          have hla6 := s6 _ _ hla
          refine ⟨F, _, _, rfl, rfl, h6, by rw [List.length_map, sizeLine_eq]; omega, ?_⟩
          have s16 : Same H1 (upd H5 p (.tup [vn (bitsOf n (i + 1)).length, .ref la, vn (i + 1)])) := (s4.trans s5).trans s6
          refine ⟨same_mut (s1.trans s16) nF, rows ++ [(p, la, bitsOf n (i + 1))], _, _, _, _, rfl, by rw [upd_same, List.map_append]; rfl, fun r hr => ?_, by rw [List.map_append, hl1, allM_succ, if_pos hlt, List.map_append]; rfl, by rw [List.length_append]; exact Nat.succ_le_succ len1⟩
          rcases List.mem_append.mp hr with hr | hr
          · exact (hr1.mono fun a xs q => upd_tup h6 _ _ (s16 _ _ q)) r hr
          · rw [List.mem_singleton.mp hr, hm]
            exact ⟨upd_tup h6 _ _ hp6, upd_tup h6 _ _ hla6⟩
      · refine ⟨false, blF (by omega), ?_⟩
        refine iteF ?_
        refine ⟨s1, rows, _, _, _, _, rfl, h1, hr1, ?_, by omega⟩
        rw [hl1, allM_succ, if_neg hlt, List.append_nil]
    · rintro σ H1 ⟨s1, rows, v2, v3, v4, v5, rfl, h1, hr1, hl1, len1⟩
      refine ⟨_, rfl, F, rows, rfl, SqL.of h1, hr1, fun rows' p pp ps np => ?_⟩
      have hlots : rows'.map (fun r => r.2.2) = lots n := by
        refine rows_lots h2 h10 ?_ (List.pairwise_map.mpr ps)
        refine (pp.map _).trans ?_
        rw [hl1]
        exact allM_perm h2 h10
      have s2 : Same H1 (upd H1 p (.lst (rows'.map fun r => V.ref r.1))) := same_new np
      have hp2 : upd H1 p (.lst (rows'.map fun r => V.ref r.1)) p = some (.lst (rows'.map fun r => V.ref r.1)) := upd_same
      have hr2 : RowsL (upd H1 p (.lst (rows'.map fun r => V.ref r.1))) rows' := (show RowsL H1 rows' from fun r hr => hr1 r (pp.mem_iff.mp hr)).mono fun a xs q => s2 _ _ q
      have len2 : rows'.length ≤ 1023 := by rw [pp.length_eq]; exact len1
      revert s2 hp2 hr2
      generalize upd H1 p (.lst (rows'.map fun r => V.ref r.1)) = H2
      intro s2 hp2 hr2
      refine ⟨p, rfl, ⟨_, SqL.of hp2⟩, fun D nD => ?_⟩
      refine comp_list (K := K) rows' (fun r => V.ref r.1) (fun _ => true) (fun H' r y => ∃ b, y = .ref b ∧ b ≠ D ∧ H' b = some (.tup [.ref r.2.1, vn (maskOf r.2.2)])) nD (SqL.of hp2) (by rw [sizeLine_eq]; omega) (fun H1 H2 x y eb h => ?_) (fun _ => rfl) (fun x hx H3 s3 Qb q => q H3 (Same.refl _)) (fun x hx _ H3 s3 hD3 Qv q => ?_) (fun H3 ys s3 d3 r => ?_)
      · obtain ⟨b, e1, e2, e3⟩ := h
        exact ⟨b, e1, e2, eb _ _ e2 e3⟩
      · obtain ⟨q1, q2⟩ := hr2 x hx
        have q1 := s3 _ _ q1
        refine ⟨_, rfl, x.1, _, 1, _, rfl, rfl, SqT.of q1, rfl, _, rfl, x.1, _, 2, _, rfl, rfl, SqT.of q1, rfl, by show 2 ≤ sizeLine; rw [sizeLine_eq]; decide, fun b nb => ?_⟩
        obtain ⟨ys, hys⟩ := hD3
        exact q _ _ (same_new nb) ⟨b, rfl, (ne_of_none hys nb).symm, upd_same⟩
      · have hf : (rows'.filter fun _ => true) = rows' := List.filter_eq_self.mpr fun _ _ => rfl
        rw [hf] at r
        have hyr : ∀ {rs : List (Addr × Addr × List Nat)} {ys : List V}, Paired (fun (r : Addr × Addr × List Nat) (y : V) => ∃ b, y = .ref b ∧ b ≠ D ∧ H3 b = some (.tup [.ref r.2.1, vn (maskOf r.2.2)])) rs ys → (∀ r ∈ rs, H3 r.2.1 = some (.tup (vns r.2.2))) → ∃ ps, ys = ps.map V.ref ∧ LotsP H3 ps (rs.map fun r => r.2.2) := by
          intro rs ys pr
          induction pr with
          | nil => exact fun _ => ⟨[], rfl, .nil⟩
          | @cons r y rs ys h t ih =>
            intro hh
            obtain ⟨ps, e1, e2⟩ := ih fun r hr => hh r (List.mem_cons_of_mem _ hr)
            obtain ⟨b, rfl, _, hb⟩ := h
            exact ⟨b :: ps, by rw [e1]; rfl, .cons ⟨_, hb, hh r List.mem_cons_self⟩ e2⟩
        obtain ⟨ps, e1, e2⟩ := hyr r fun r hr => s3 _ _ (hr2 r hr).2
        rw [e1] at d3
        rw [hlots] at e2
        exact k H3 D ps ((s1.trans s2).trans s3) (none_of (s1.trans s2) nD) d3 e2
end
end Spt

set_option Elab.async false
set_option linter.all false
set_option maxRecDepth 100000
set_option maxHeartbeats 8000000
/-! the law: sides, entering, width_into -/
namespace Spt
open PySem PySem.Spec PyProof.Rows L2
section
variable {P : Program} {w : World} {K : PySem.W.Frag} {mg : Str → Option Value} {base : Heap}
theorem scLSides : FnScope ["_law_many", "_law_root", "_law_row"] ["_law_many", "_law_root"] (defScope sLSides) := ⟨rfl, rfl, rfl, by decide +kernel, rfl, by decide +kernel, by decide +kernel⟩
def spLSides : Sp := fun vs H Q _ => ∃ n root : Nat, vs = [vn n, vn root] ∧ 2 ≤ n ∧ n ≤ 10 ∧ ∀ H' D ps, Same H H' → H D = none → H' D = some (.lst (ps.map V.ref)) → LotsP H' ps (sides n root) → Q (.ref D) H'
theorem okLSides (T : Txt K mg) : FnK P w K mg base CX0 2 (He.ga K "_law_sides") ["_law_many", "_law_root"] spLSides := by
  refine FnK.of T.d_LSides scLSides (fun _ _ _ _ _ _ us hl => match us, hl with | [_, _], _ => rfl) (fun vs H Q E h => ?_) (fun cdv A outer s H vs Q E hr h => ?_)
  · obtain ⟨n, root, rfl, _⟩ := h
    rfl
  · obtain ⟨n, root, rfl, h2, h10, k⟩ := h
    refine ⟨_, pss_one (ps_ret (lct 2 (pi_list (cl (okLLots T) hr T.g__law_lots (a1 (pv 0)))) (fun _ _ _ _ _ => pt_cmpR (opNotIn K) (pv 1) (pe_ix (ixT K) (pv 2) pe_int (fun _ _ => rfl)) (by rfl)) (fun _ _ _ _ _ => pv 2) scLSides)), ?_⟩
    refine ⟨_, rfl, n, rfl, h2, h10, fun H1 D as s1 hD h1 lo => ?_⟩
    obtain ⟨ps, rfl, e1, e3⟩ := Paired.zipd lo
    refine ⟨D, rfl, ⟨_, SqL.of h1⟩, fun D2 hD2 => ?_⟩
    have h1' : SqL K H1 D (ps.map fun q => V.ref q.1) := by
      have := SqL.of (K := K) h1
      rw [List.map_map] at this
      exact this
    refine comp_list (K := K) ps (fun q => V.ref q.1) (fun q => !decide (root ∈ q.2)) (fun _ q y => y = .ref q.1) hD2 h1' ?_ (fun _ _ _ _ _ h => h) (fun _ => rfl) (fun q hm H2 s2 Qb qq => ?_) (fun q hm _ H2 s2 _ Qv qq => ⟨_, rfl, qq _ H2 (Same.refl _) rfl⟩) (fun H2 ys s2 d2 r => ?_)
    · have := lots_len h2 h10
      rw [e1, List.length_map] at this
      rw [sizeLine_eq]
      omega
    · obtain ⟨la, q1, q2⟩ := e3 q hm
      refine ⟨_, rfl, _, rfl, q.1, _, 0, _, rfl, rfl, SqT.of (s2 _ _ q1), rfl, la, _, rfl, .inr (SqT.of (s2 _ _ q2)), rfl, vns_flat _, _, rfl, ?_⟩
      rw [inV_vns]
      exact qq H2 (Same.refl _)
    · have e := Paired.eq_map r
      subst e
      refine k H2 D2 ((ps.filter fun q => !decide (root ∈ q.2)).map (·.1)) (s1.trans s2) (s1.free hD2) (by rw [d2, List.map_map]; rfl) ?_
      unfold sides
      have fm : ∀ (p : List Nat → Bool) (ps : List (Addr × List Nat)), (ps.filter fun q => p q.2).map (·.2) = (ps.map (·.2)).filter p := by
        intro p ps
        rw [List.filter_map]
        rfl
      rw [e1, ← fm (fun l => !decide (root ∈ l)) ps]
      exact Paired.unzip (F := SideR H2) fun q hq => (e3 q (List.mem_filter.mp hq).1).mono fun a xs z => s2 _ _ z
/-! entering -/
theorem scLEntering : FnScope ["_law_links", "_law_lot", "_law_mask", "_law_link"] ["_law_links", "_law_lot", "_law_mask"] (defScope sLEntering) := ⟨rfl, rfl, rfl, by decide +kernel, rfl, by decide +kernel, by decide +kernel⟩
def spLEntering : Sp := fun vs H Q _ => ∃ (lt a : Addr) (n : Nat) (es : List (Nat × Nat)) (l : List Nat), vs = [.ref lt, .ref a, vn (maskOf l)] ∧ 2 ≤ n ∧ n ≤ 10 ∧ l ∈ lots n ∧ LinksO H lt es ∧ Links n es ∧ es.length ≤ 60 ∧ H a = some (.lst (vns (List.range es.length))) ∧
  ∀ H' D, Same H H' → H D = none → H' D = some (.lst (vns (enterOf es (List.range es.length) l))) → Q (.ref D) H'
theorem okLEntering (T : Txt K mg) : FnK P w K mg base CX0 1 (He.ga K "_law_entering") ["_law_links", "_law_lot", "_law_mask"] spLEntering := by
  refine FnK.of T.d_LEntering scLEntering (fun _ _ _ _ _ _ us hl => match us, hl with | [_, _, _], _ => rfl) (fun vs H Q E h => ?_) (fun cdv A outer s H vs Q E hr h => ?_)
  · obtain ⟨lt, a, n, es, l, rfl, _⟩ := h
    rfl
  · obtain ⟨lt, a, n, es, l, rfl, n2, n10, hl, hlt, hes, hz, ha, k⟩ := h
    refine ⟨_, pss_one (ps_ret (lct 3 (pi_list (pv 1)) (fun _ _ _ _ _ => PW.pt (pw_and (pt_cmpR op_eq (pe_op op_and (pe_op op_shr (pv 2) (pe_ix (ixT K) (pe_ix (ixT K) (pv 0) (pv 3) (fun _ _ => rfl)) pe_int (fun _ _ => rfl))) pe_int) pe_int (nomark _)) (pw_and1 (pt_cmpR op_eq (pe_op op_and (pe_op op_shr (pv 2) (pe_ix (ixT K) (pe_ix (ixT K) (pv 0) (pv 3) (fun _ _ => rfl)) pe_int (fun _ _ => rfl))) pe_int) pe_int (nomark _))))) (fun _ _ _ _ _ => pv 3) scLEntering)), ?_⟩
    refine ⟨_, rfl, a, rfl, ⟨_, SqL.of ha⟩, fun D hD => ?_⟩
    refine comp_list (K := K) (List.range es.length) vn (fun i => entersL (linkAt es i) l) (fun _ x y => y = vn x) hD (SqL.of ha) (by rw [List.length_range, sizeLine_eq]; omega) (fun _ _ _ _ _ h => h) (fun _ => rfl) (fun x hm H1 s1 Qb q => ?_) (fun x hm _ H1 s1 _ Qv q => ⟨_, rfl, q _ H1 (Same.refl _) rfl⟩) (fun H1 ys s1 h1 r => ?_)
    · have hx := List.mem_range.mp hm
      have he := linkAt_eq hx
      obtain ⟨xs, b, q1, q2, q3⟩ := hlt.get he
      have hen := enters_lot n2 n10 hes hl (List.mem_of_getElem? he)
      have q1 := s1 _ _ q1
      have q3 := s1 _ _ q3
      rw [← hen] at q
      unfold enters at q
      refine ⟨_, rfl, _, rfl, _, rfl, lt, _, _, _, rfl, rfl, SqT.of q1, atI_nat q2, b, _, 1, _, rfl, rfl, SqT.of q3, rfl, _, _, rfl, rfl, Int.natCast_nonneg _, _, _, rfl, rfl, rfl, ?_⟩
      refine ⟨_, rfl, ?_⟩
      show if decide (V.int (Builtin.bitAnd ((maskOf l : Int) / 2 ^ ((linkAt es x).2 : Int).toNat) 1) = V.int 1) = true then _ else _
      rw [bit1]
      cases c2 : (maskOf l).testBit (linkAt es x).2 with
      | false =>
        refine iteF ?_
        rw [c2] at q
        exact q H1 (Same.refl _)
      | true =>
        refine iteT ?_
        rw [c2] at q
        refine ⟨_, rfl, _, rfl, _, rfl, lt, _, _, _, rfl, rfl, SqT.of q1, atI_nat q2, b, _, 0, _, rfl, rfl, SqT.of q3, rfl, _, _, rfl, rfl, Int.natCast_nonneg _, _, _, rfl, rfl, rfl, ?_⟩
        refine ⟨_, rfl, ?_⟩
        show Qb (decide (V.int (Builtin.bitAnd ((maskOf l : Int) / 2 ^ ((linkAt es x).1 : Int).toNat) 1) = V.int 0)) H1
        rw [bit0]
        exact q H1 (Same.refl _)
    · have e := Paired.eq_map r
      subst e
      exact k H1 D s1 hD h1
/-! width_into -/
theorem scLWidthInto : FnScope ["_law_parts", "_law_widths", "_law_mask", "_law_link"] ["_law_parts", "_law_widths", "_law_mask"] (defScope sLWidthInto) := ⟨rfl, rfl, rfl, by decide +kernel, rfl, by decide +kernel, by decide +kernel⟩
def spLWidthInto : Sp := fun vs H Q _ => ∃ (p lt wt : Addr) (n root : Nat) (es : List (Nat × Nat)) (ws l : List Nat), vs = [.ref p, .ref wt, vn (maskOf l)] ∧ PartsO H p n root lt es ∧ WidthsO H wt ws es ∧ l ∈ lots n ∧ ∀ H', Same H H' → Q (vn (widthInto es ws l)) H'
theorem okLWidthInto (T : Txt K mg) : FnK P w K mg base CX0 2 (He.ga K "_law_width_into") ["_law_parts", "_law_widths", "_law_mask"] spLWidthInto := by
  refine FnK.of T.d_LWidthInto scLWidthInto (fun _ _ _ _ _ _ us hl => match us, hl with | [_, _, _], _ => rfl) (fun vs H Q E h => ?_) (fun cdv A outer s H vs Q E hr h => ?_)
  · obtain ⟨p, lt, wt, n, root, es, ws, l, rfl, _⟩ := h
    rfl
  · obtain ⟨p, lt, wt, n, root, es, ws, l, rfl, ⟨hp, hlt, hes, n2, n10, hroot, hz⟩, ⟨hw, hwl, hwm⟩, hl, k⟩ := h
    obtain ⟨xs, hx, hxl⟩ := hlt.len
    refine ⟨_, pss_one (ps_ret (cb (cr_sum rfl) T.f_sum (a1 (lcn 3 (pi_list (cl (okLEntering T) hr T.g__law_entering (a3 (pe_ix (ixT K) (pv 0) pe_int (fun _ _ => rfl)) (pe_listRg rfl rfl T.f_list (prg_1 rfl T.f_range (cb call_len T.f_len (a1 (pe_ix (ixT K) (pv 0) pe_int (fun _ _ => rfl)))))) (pv 2)))) (fun _ _ _ _ _ => pe_ix (ixT K) (pv 1) (pv 3) (fun _ _ => rfl)) scLWidthInto)))), ?_⟩
    refine ⟨_, rfl, p, _, 2, _, rfl, rfl, SqT.of hp, rfl, _, rfl, p, _, 2, _, rfl, rfl, SqT.of hp, rfl, _, es.length, rfl, .inr ⟨_, SqT.of hx, hxl.symm⟩, ?_⟩
    refine ⟨_, rfl, RgOk.of_le (by omega) (by omega) (by omega) (by omega), fun t ht => ?_⟩
    rw [rgV_vns]
    have s1 : Same H (upd H t (.lst (vns (List.range es.length)))) := same_new ht
    have ht1 : upd H t (.lst (vns (List.range es.length))) t = some (.lst (vns (List.range es.length))) := upd_same
    revert s1 ht1
    generalize upd H t (.lst (vns (List.range es.length))) = H1
    intro s1 ht1
    refine ⟨_, rfl, lt, t, n, es, l, rfl, n2, n10, hl, hlt.same s1, hes, hz, ht1, fun H2 D s2 n2' d2 => ?_⟩
    refine ⟨D, rfl, ⟨_, SqL.of d2⟩, fun D2 hD2 => ?_⟩
    have mem : ∀ x ∈ enterOf es (List.range es.length) l, x < ws.length := fun x hx => by
      rw [hwl]
      exact List.mem_range.mp (List.mem_filter.mp hx).1
    refine comp_list (K := K) (enterOf es (List.range es.length) l) vn (fun _ => true) (fun _ x y => y = vn (ws.getD x 0)) hD2 (SqL.of d2) ?_ (fun _ _ _ _ _ h => h) (fun _ => rfl) (fun x _ H3 s3 Qb q => q H3 (Same.refl _)) (fun x hm _ H3 s3 _ Qv q => ?_) (fun H3 ys s3 h3 r => ?_)
    · refine sz64 ?_
      unfold enterOf
      refine Nat.le_trans (List.length_filter_le _ _) ?_
      rw [List.length_range]
      omega
    · have hx := mem x hm
      refine ⟨_, rfl, _, rfl, wt, _, _, vn (ws.getD x 0), rfl, rfl, SqT.of (s3 _ _ (s2 _ _ (s1 _ _ hw))), atI_nat (vns_at ?_), q _ H3 (Same.refl _) rfl⟩
      rw [List.getD_eq_getElem?_getD, List.getElem?_eq_getElem hx]
      rfl
    · rw [List.filter_eq_self.mpr (fun _ _ => rfl)] at r
      have e := Paired.eq_map r
      subst e
      refine ⟨D2, ((enterOf es (List.range es.length) l).map fun x => ws.getD x 0).map fun n : Nat => (n : Int), rfl, ?_, ?_⟩
      · rw [← vns_eq]
        unfold vns
        rw [List.map_map]
        exact SqL.of h3
      · rw [sum_cast]
        exact k H3 ((s1.trans s2).trans s3)
end
end Spt

set_option Elab.async false
set_option linter.all false
set_option maxRecDepth 100000
set_option maxHeartbeats 8000000
/-! the law: is_wood, of a tree -/
namespace Spt
open PySem PySem.Spec PyProof.Rows L2
/-- the place ahead -/
def parOf (es : List (Nat × Nat)) (L : List Nat) (x : Nat) : Option Nat := (L.find? fun i => decide (headOf es i = x)).map (tailOf es)
def stepP (es : List (Nat × Nat)) (L : List Nat) (x : Nat) : Nat := (parOf es L x).getD x
def itR (f : Nat → Nat) : Nat → Nat → Nat
  | 0, x => x
  | k + 1, x => f (itR f k x)
theorem itR_in (f : Nat → Nat) (x : Nat) : ∀ k, itR f (k + 1) x = itR f k (f x)
  | 0 => rfl
  | k + 1 => by
    show f (itR f (k + 1) x) = f (itR f k (f x))
    rw [itR_in f x k]
theorem itR_fix {f : Nat → Nat} {r : Nat} (h : f r = r) : ∀ k, itR f k r = r
  | 0 => rfl
  | k + 1 => by
    show f (itR f k r) = r
    rw [itR_fix h k, h]
theorem itR_more {f : Nat → Nat} {r x : Nat} (h : f r = r) {d : Nat} (hd : itR f d x = r) : ∀ k, d ≤ k → itR f k x = r := by
  intro k hk
  obtain ⟨m, rfl⟩ := Nat.le.dest hk
  clear hk
  induction m with
  | zero => exact hd
  | succ m ih =>
    show f (itR f (d + m) x) = r
    rw [ih, h]
theorem parOf_none {es : List (Nat × Nat)} {L : List Nat} {x : Nat} (h : x ∉ L.map (headOf es)) : parOf es L x = none := by
  unfold parOf
  rw [List.find?_eq_none.mpr fun i hi => by
    intro q
    exact h (List.mem_map.mpr ⟨i, hi, of_decide_eq_true q⟩)]
  rfl
theorem parOf_at {es : List (Nat × Nat)} : ∀ {L : List Nat} {i : Nat}, (L.map (headOf es)).Nodup → i ∈ L → parOf es L (headOf es i) = some (tailOf es i)
  | j :: L, i, hn, hi => by
    unfold parOf
    rw [List.find?_cons]
    rw [List.map_cons, List.nodup_cons] at hn
    by_cases e : headOf es j = headOf es i
    · rw [decide_eq_true e]
      rcases List.mem_cons.mp hi with q | q
      · rw [q]; rfl
      · exact absurd (List.mem_map.mpr ⟨i, q, e.symm⟩) hn.1
    · rw [decide_eq_false e]
      rcases List.mem_cons.mp hi with q | q
      · rw [q] at e; exact absurd rfl e
      · exact parOf_at hn.2 q
theorem parOf_snoc {es : List (Nat × Nat)} {L : List Nat} {i x : Nat} (h : headOf es i ∉ L.map (headOf es)) : parOf es (L ++ [i]) x = if x = headOf es i then some (tailOf es i) else parOf es L x := by
  unfold parOf
  rw [List.find?_append]
  by_cases e : x = headOf es i
  · rw [if_pos e, e]
    have : L.find? (fun j => decide (headOf es j = headOf es i)) = none := List.find?_eq_none.mpr fun j hj => by
      intro q
      exact h (List.mem_map.mpr ⟨j, hj, of_decide_eq_true q⟩)
    rw [this]
    simp
  · rw [if_neg e]
    have : [i].find? (fun j => decide (headOf es j = x)) = none := by
      rw [List.find?_cons, decide_eq_false (fun z => e z.symm)]
      rfl
    rw [this, Option.or_none]
theorem Grown.walk {es : List (Nat × Nat)} {root : Nat} {T : List Nat} {R : Nat} (g : Grown es root T R) {L : List Nat} (hn : (L.map (headOf es)).Nodup) (hT : ∀ i ∈ T, i ∈ L) : ∀ v, R.testBit v = true → ∃ d, d ≤ T.length ∧ itR (stepP es L) d v = root := by
  induction g with
  | nil =>
    intro v hv
    rw [Nat.testBit_two_pow] at hv
    exact ⟨0, Nat.le_refl _, (of_decide_eq_true hv).symm⟩
  | @snoc T R i e g he h1 h2 ih =>
    intro v hv
    have ih := ih fun j hj => hT j (List.mem_append_left _ hj)
    rw [testBit_add_pow _ _ h2, Bool.or_eq_true] at hv
    rcases hv with hv | hv
    · obtain ⟨d, d1, d2⟩ := ih v hv
      exact ⟨d, by rw [List.length_append]; omega, d2⟩
    · have ev : v = e.2 := (of_decide_eq_true hv)
      obtain ⟨d, d1, d2⟩ := ih e.1 h1
      refine ⟨d + 1, by rw [List.length_append]; exact Nat.succ_le_succ d1, ?_⟩
      rw [itR_in]
      have hp := parOf_at (es := es) hn (hT i (List.mem_append_right _ List.mem_cons_self))
      rw [headOf_eq he, tailOf_eq he] at hp
      have : stepP es L v = e.1 := by
        unfold stepP
        rw [ev, hp]
        rfl
      rw [this]
      exact d2
theorem IsTree.walk {n root : Nat} {es : List (Nat × Nat)} {L : List Nat} (t : IsTree n root es L) (hr : root < n) (hl : Links n es) {v : Nat} (hv : v < n) : itR (stepP es L) n v = root := by
  have hh := t.heads
  have hs := t.size hr hl
  obtain ⟨⟨T, g, p⟩, _⟩ := id t
  obtain ⟨d, d1, d2⟩ := g.walk hh.1 (fun i hi => p.mem_iff.mpr hi) v (full_bit.mpr hv)
  have hf : stepP es L root = root := by
    unfold stepP
    rw [parOf_none hh.2]
    rfl
  refine itR_more hf d2 n ?_
  rw [← p.length_eq] at d1
  omega
section
variable {P : Program} {w : World} {K : PySem.W.Frag} {mg : Str → Option Value} {base : Heap}
theorem scLIsWood : FnScope ["_law_parts", "_law_sources", "_law_thing", "_law_many", "_law_links", "_law_ahead", "_law_link", "_law_place", "_law_here", "_law_turn"] ["_law_parts", "_law_sources", "_law_thing"] (defScope sLIsWood) := ⟨rfl, rfl, rfl, by decide +kernel, rfl, by decide +kernel, by decide +kernel⟩
def spLIsWood : Sp := fun vs H Q _ => ∃ (p so t lt : Addr) (n root : Nat) (es : List (Nat × Nat)) (L : List Nat), vs = [.ref p, .ref so, .ref t] ∧ PartsO H p n root lt es ∧ H so = some (.tup [vn root]) ∧ H t = some (.tup (vns L)) ∧ IsTree n root es L ∧ ∀ H', Same H H' → Q (.bl true) H'
theorem okLIsWood (T : Txt K mg) : FnK P w K mg base CX0 3 (He.ga K "_law_is_wood") ["_law_parts", "_law_sources", "_law_thing"] spLIsWood := by
  refine FnK.of T.d_LIsWood scLIsWood (fun _ _ _ _ _ _ us hl => match us, hl with | [_, _, _], _ => rfl) (fun vs H Q E h => ?_) (fun cdv A outer s H vs Q E hr h => ?_)
  · obtain ⟨p, so, t, lt, n, root, es, L, rfl, _⟩ := h
    rfl
  · obtain ⟨p, so, t, lt, n, root, es, L, rfl, ⟨hp, hlt, hes, n2, n10, hroot, hz⟩, hso, ht, tr, k⟩ := h
    obtain ⟨xs, hx, hxl⟩ := hlt.len
    have hh := tr.heads
    have hsz := tr.size hroot hes
    refine ⟨_, pss_cons (ps_par (i := 3) (j := 4) rfl scLIsWood.nd rfl rfl (by decide) rfl rfl (a2 (pe_ix (ixT K) (pv 0) pe_int (fun _ _ => rfl)) (pe_ix (ixT K) (pv 0) pe_int (fun _ _ => rfl))) rfl)
      (pss_cons (ps_if (PW.pt (pw_or (pt_not (pt_val (cl (okLIsLot T) hr T.g__law_is_lot (a2 (pv 2) (cb call_len T.f_len (a1 (pv 4))))))) (pw_or1 (pt_cmpR op_ne (cb call_len T.f_len (a1 (pv 2))) (pe_op op_sub (pv 3) (cb call_len T.f_len (a1 (pv 1)))) (nomark _))))) (pss_one (ps_ret pe_bl)) pss_nil)
      (pss_cons (ps_set (i := 5) scLIsWood.nd rfl (.inl rfl) pe_dnewK)
      (pss_cons (ps_for PassesOwn.never rfl (pi_tup (pv 2)) (pg_name (i := 6) scLIsWood.nd rfl (.inl rfl))
        (pss_cons (ps_if (PW.pt (pw_or (pt_cmp (pc_din (Room.u1 hr) (pe_ix (ixT K) (pe_ix (ixT K) (pv 4) (pv 6) (fun _ _ => rfl)) pe_int (fun _ _ => rfl)) (pv 5))) (pw_or1 (pt_cmpR (opIn K) (pe_ix (ixT K) (pe_ix (ixT K) (pv 4) (pv 6) (fun _ _ => rfl)) pe_int (fun _ _ => rfl)) (pv 1) (by rfl))))) (pss_one (ps_ret pe_bl)) pss_nil)
        (pss_one (ps_dput (Room.u1 hr) (pv 5) (pe_ix (ixT K) (pe_ix (ixT K) (pv 4) (pv 6) (fun _ _ => rfl)) pe_int (fun _ _ => rfl)) (pe_ix (ixT K) (pe_ix (ixT K) (pv 4) (pv 6) (fun _ _ => rfl)) pe_int (fun _ _ => rfl)) rfl))))
      (pss_cons (ps_for PassesOwn.never rfl (pi_range1 rfl T.f_range (a1 (pv 3))) (pg_name (i := 7) scLIsWood.nd rfl (.inl rfl))
        (pss_cons (ps_set (i := 8) scLIsWood.nd rfl (.inl rfl) (pv 7))
        (pss_cons (ps_for PassesOwn.never rfl (pi_range1 rfl T.f_range (a1 (pv 3))) (pg_name (i := 9) scLIsWood.nd rfl (.inl rfl))
          (pss_one (ps_set (i := 8) scLIsWood.nd rfl (.inl rfl) (pe_dget2 (Room.u1 hr) (pv 5) (pv 8) (pv 8) ⟨rfl, rfl, rfl, rfl⟩))))
        (pss_one (ps_if (pt_cmpR (opNotIn K) (pv 8) (pv 1) (by rfl)) (pss_one (ps_ret pe_bl)) pss_nil)))))
      (pss_one (ps_ret pe_bl)))))), ?_⟩
    refine ⟨_, rfl, p, _, 0, _, rfl, rfl, SqT.of hp, rfl, _, rfl, p, _, 2, _, rfl, rfl, SqT.of hp, rfl, ?_⟩
    refine ⟨_, _, rfl, ?_⟩
    refine ⟨_, rfl, _, rfl, _, es.length, rfl, .inr ⟨_, SqT.of hx, hxl.symm⟩, t, L, es.length, rfl, ht, tr.lotOk, true, rfl, ?_⟩
    refine iteF ?_
    refine ⟨_, rfl, _, L.length, rfl, .inr ⟨_, SqT.of ht, (vns_len _).symm⟩, _, rfl, _, rfl, _, 1, rfl, .inr ⟨_, SqT.of hso, rfl⟩, _, _, rfl, rfl, rfl, _, rfl, ?_⟩
    have e1 : (!decide (V.int (L.length : Nat) = V.int ((n : Int) - (1 : Nat)))) = false := by
      rw [decide_eq_true (by congr 1; omega)]
      rfl
    rw [e1]
    refine iteF ?_
    refine fun D nD => ?_
    have sD : Same H (upd H D (.dK [])) := same_new nD
    refine ⟨_, rfl, t, rfl, ⟨_, SqT.of (sD _ _ ht)⟩, for_tup (K := K) (a := t) (xs := vns L) (fun i σ H' => Same H H' ∧ ∃ (kvs : List (Key × V)) (v6 v7 v8 v9 : Option V), σ = [some (.ref p), some (.ref so), some (.ref t), some (vn n), some (.ref lt), some (.ref D), v6, v7, v8, v9] ∧ H' D = some (.dK kvs) ∧ kvs.length ≤ i ∧ ∀ x : Nat, valV kvs (numK x) = (parOf es (L.take i) x).map vn)
      ⟨sD, [], none, none, none, none, rfl, upd_same, Nat.le_refl _, fun x => rfl⟩ (fun i σ H' _ h => SqT.of (h.1 _ _ ht)) ?_ ?_⟩
    · rintro i x σ H' hi ⟨s1, kvs, v6, v7, v8, v9, rfl, hD, hkl, hv⟩
      obtain ⟨z, hz, rfl⟩ := vns_get hi
      have hzL := List.mem_of_getElem? hz
      have hzl := tr.lt z hzL
      obtain ⟨ys, b, q1, q2, q3⟩ := hlt.get (linkAt_eq hzl)
      have q1 := s1 _ _ q1
      have q3 := s1 _ _ q3
      have htk : L.take (i + 1) = L.take i ++ [z] := take_snoc hz
      have hnew : headOf es z ∉ (L.take i).map (headOf es) := by
        intro q
        have hn2 : ((L.take (i + 1)).map (headOf es)).Nodup := List.Sublist.nodup (List.Sublist.map _ (List.take_sublist _ _)) hh.1
        rw [htk, List.map_append, List.nodup_append] at hn2
        exact hn2.2.2 _ q _ List.mem_cons_self rfl
      have e2 : (linkAt es z).2 = headOf es z := rfl
      have e3 : (linkAt es z).1 = tailOf es z := rfl
      rw [e2, e3] at q3
      have hiL := (List.getElem?_eq_some_iff.mp hz).1
      refine ⟨_, rfl, _, rfl, lt, _, _, _, rfl, rfl, SqT.of q1, atI_nat q2, b, _, 1, _, rfl, rfl, SqT.of q3, rfl, _, rfl, D, _, rfl, DGet.k (k := numK (headOf es z)) hD, ?_⟩
      rw [hv, parOf_none hnew]
      refine ⟨_, rfl, ?_⟩
      refine iteF ?_
      refine ⟨_, rfl, _, rfl, lt, _, _, _, rfl, rfl, SqT.of q1, atI_nat q2, b, _, 1, _, rfl, rfl, SqT.of q3, rfl, _, rfl, so, _, rfl, .inr (SqT.of (s1 _ _ hso)), rfl, vns_flat [root], _, rfl, ?_⟩
      have e4 : inV (vn (headOf es z)) [vn root] = false := by
        show inV (vn (headOf es z)) (vns [root]) = false
        rw [inV_vns, decide_eq_false]
        intro q
        rw [List.mem_singleton] at q
        exact hh.2 (List.mem_map.mpr ⟨z, hzL, q⟩)
      rw [e4]
      refine iteF ?_
      refine ⟨_, rfl, _, rfl, lt, _, _, _, rfl, rfl, SqT.of q1, atI_nat q2, b, _, 0, _, rfl, rfl, SqT.of q3, rfl, _, rfl, _, rfl, _, rfl, lt, _, _, _, rfl, rfl, SqT.of q1, atI_nat q2, b, _, 1, _, rfl, rfl, SqT.of q3, rfl, D, _, rfl, DPut.k (k := numK (headOf es z)) hD (by rw [sizeLine_eq]; omega), ?_⟩
      refine ⟨same_mut s1 nD, _, _, _, _, _, rfl, upd_same, ?_, fun x => ?_⟩
      · have : ∀ (kvs : List (Key × V)) (k : Key) (v : V), (putK kvs k v).length ≤ kvs.length + 1 := by
          intro kvs k v
          unfold putK
          split
          · rw [List.length_map]; omega
          · rw [List.length_append]; exact Nat.le_refl _
        exact Nat.le_trans (this _ _ _) (by omega)
      · rw [valV_put, htk, parOf_snoc hnew]
        by_cases e : x = headOf es z
        · rw [if_pos e, if_pos (by rw [e])]; rfl
        · rw [if_neg e, if_neg (fun q => e (numK_inj q)), hv]
    · rintro σ H' ⟨s1, kvs, v6, v7, v8, v9, rfl, hD, hkl, hv⟩
      rw [vns_len, List.take_length] at hv
      refine ⟨_, rfl, (n : Int), rfl, by omega, by omega, ?_⟩
      rw [Int.toNat_natCast]
      refine for_range (lo := 0) (n := n) (fun _ σ H2 => H2 = H' ∧ ∃ v6 v7 v8 v9 : Option V, σ = [some (.ref p), some (.ref so), some (.ref t), some (vn n), some (.ref lt), some (.ref D), v6, v7, v8, v9]) ⟨rfl, _, _, _, _, rfl⟩ ?_ ?_
      · rintro i σ H2 hi ⟨rfl, v6, v7, v8, v9, rfl⟩
        have ei : V.int (0 + (i : Int)) = vn i := by rw [Int.zero_add]; rfl
        rw [ei]
        refine ⟨_, rfl, ?_⟩
        refine ⟨_, rfl, (n : Int), rfl, by omega, by omega, ?_⟩
        rw [Int.toNat_natCast]
        refine for_range (lo := 0) (n := n) (fun j σ H3 => H3 = H2 ∧ ∃ v9 : Option V, σ = [some (.ref p), some (.ref so), some (.ref t), some (vn n), some (.ref lt), some (.ref D), v6, some (vn i), some (vn (itR (stepP es L) j i)), v9]) ⟨rfl, _, rfl⟩ ?_ ?_
        · rintro j σ H3 hj ⟨rfl, v9, rfl⟩
          refine ⟨_, rfl, D, rfl, .inl ⟨_, .inl hD⟩, _, rfl, _, rfl, _, DGet.k (k := numK (itR (stepP es L) j i)) hD, ?_⟩
          rw [hv]
          have e5 : ((parOf es L (itR (stepP es L) j i)).map vn).getD (vn (itR (stepP es L) j i)) = vn (itR (stepP es L) (j + 1) i) := by
            show _ = vn (stepP es L (itR (stepP es L) j i))
            unfold stepP
            cases parOf es L (itR (fun x => (parOf es L x).getD x) j i) <;> rfl
          rw [e5]
          exact ⟨rfl, _, rfl⟩
        · rintro σ H3 ⟨rfl, v9, rfl⟩
          rw [tr.walk hroot hes hi]
          refine ⟨_, rfl, _, rfl, so, _, rfl, .inr (SqT.of (s1 _ _ hso)), rfl, vns_flat [root], _, rfl, ?_⟩
          have e4 : (!inV (vn root) [vn root]) = false := by
            show (!inV (vn root) (vns [root])) = false
            rw [inV_vns]
            simp
          rw [e4]
          exact iteF ⟨rfl, _, _, _, _, rfl⟩
      · rintro σ H2 ⟨rfl, v6, v7, v8, v9, rfl⟩
        exact k H2 s1
end
end Spt

set_option Elab.async false
set_option linter.all false
set_option maxRecDepth 100000
set_option maxHeartbeats 8000000
/-! the law: are_loads, of good loads -/
namespace Spt
open PySem PySem.Spec PyProof.Rows L2
def usedBy (rows : List (Nat × List Nat)) (j : Nat) : Nat := (rows.map fun r => if j ∈ r.2 then r.1 else 0).sum
theorem usedBy_snoc (rows : List (Nat × List Nat)) (r : Nat × List Nat) (j : Nat) : usedBy (rows ++ [r]) j = usedBy rows j + if j ∈ r.2 then r.1 else 0 := by
  unfold usedBy
  rw [List.map_append, List.sum_append]
  simp
def rowOf (m : Nat) (f : Nat → Nat) : List Nat := (List.range m).map f
theorem rowOf_len (m : Nat) (f : Nat → Nat) : (rowOf m f).length = m := by
  unfold rowOf
  rw [List.length_map, List.length_range]
theorem rowOf_get {m j : Nat} (f : Nat → Nat) (h : j < m) : (rowOf m f)[j]? = some (f j) := by
  unfold rowOf
  rw [List.getElem?_map, List.getElem?_range h]
  rfl
theorem rowOf_set {m z v : Nat} (f : Nat → Nat) (h : z < m) : (vns (rowOf m f)).set z (vn v) = vns (rowOf m fun j => if j = z then v else f j) := by
  refine List.ext_getElem? fun j => ?_
  rw [List.getElem?_set]
  unfold vns
  rw [List.getElem?_map, List.getElem?_map, List.length_map, rowOf_len]
  by_cases e : z = j
  · subst e
    rw [if_pos rfl, if_pos h, rowOf_get _ h, if_pos rfl]
    rfl
  · rw [if_neg e]
    by_cases hj : j < m
    · rw [rowOf_get _ hj, rowOf_get _ hj, if_neg (fun z => e z.symm)]
    · rw [List.getElem?_eq_none (by rw [rowOf_len]; omega), List.getElem?_eq_none (by rw [rowOf_len]; omega)]
theorem rep_zero (m : Nat) : (List.replicate m [vn 0]).flatten = vns (rowOf m fun _ => 0) := by
  have h1 : ∀ m, (List.replicate m [vn 0]).flatten = List.replicate m (vn 0) := fun m => by
    induction m with
    | zero => rfl
    | succ m ih => rw [List.replicate_succ, List.flatten_cons, ih, List.replicate_succ]; rfl
  rw [h1]
  unfold vns rowOf
  rw [List.map_map]
  refine List.ext_getElem? fun j => ?_
  rw [List.getElem?_replicate, List.getElem?_map]
  by_cases hj : j < m
  · rw [if_pos hj, List.getElem?_range hj]; rfl
  · rw [if_neg hj, List.getElem?_eq_none (by rw [List.length_range]; omega)]; rfl
theorem rowOf_congr {m : Nat} {f g : Nat → Nat} (h : ∀ j, j < m → f j = g j) : rowOf m f = rowOf m g := List.map_congr_left fun j hj => h j (List.mem_range.mp hj)
section
variable {P : Program} {w : World} {K : PySem.W.Frag} {mg : Str → Option Value} {base : Heap}
theorem scLAreLoads : FnScope ["_law_parts", "_law_widths", "_law_many", "_law_thing", "_law_used", "_law_times", "_law_at", "_law_link"] ["_law_parts", "_law_widths", "_law_many", "_law_thing"] (defScope sLAreLoads) := ⟨rfl, rfl, rfl, by decide +kernel, rfl, by decide +kernel, by decide +kernel⟩
def spLAreLoads : Sp := fun vs H Q _ => ∃ (p wt t lt : Addr) (n root c : Nat) (es : List (Nat × Nat)) (ws : List Nat) (rows : List (Nat × List Nat)), vs = [.ref p, .ref wt, vn c, .ref t] ∧ PartsO H p n root lt es ∧ WidthsO H wt ws es ∧ c ≤ 40 ∧ LoadsO H t rows ∧ GoodLoads n root es ws c rows ∧ rows.length ≤ 40 ∧ ∀ H', Same H H' → Q (.bl true) H'
theorem okLAreLoads (T : Txt K mg) : FnK P w K mg base CX0 4 (He.ga K "_law_are_loads") ["_law_parts", "_law_widths", "_law_many", "_law_thing"] spLAreLoads := by
  refine FnK.of T.d_LAreLoads scLAreLoads (fun _ _ _ _ _ _ us hl => match us, hl with | [_, _, _, _], _ => rfl) (fun vs H Q E h => ?_) (fun cdv A outer s H vs Q E hr h => ?_)
  · obtain ⟨p, wt, t, lt, n, root, c, es, ws, rows, rfl, _⟩ := h
    rfl
  · obtain ⟨p, wt, t, lt, n, root, c, es, ws, rows, rfl, ⟨hp, hlt, hes, n2, n10, hroot, hz⟩, ⟨hw, hwl, hwm⟩, c40, ⟨ras, ht, hrows⟩, GL, r40, k⟩ := h
    have hlen : ras.length = rows.length := Paired.len hrows
    refine ⟨_, pss_cons (ps_if (pt_not (pt_val (cb call_isTy T.f_isinstance (a2 (pv 3) (bty "tuple" T.f_tuple))))) (pss_one (ps_ret pe_bl)) pss_nil)
      (pss_cons (ps_asg (pe_tup (a2 (pe_op op_rep (pe_lst (a1 pe_int)) (cb call_len T.f_len (a1 (pv 1)))) pe_int)) (pg_tup rfl (pgs_cons (pg_name (i := 4) scLAreLoads.nd rfl (.inr rfl)) (pgs_cons (pg_name (i := 5) scLAreLoads.nd rfl (.inl rfl)) pgs_nil))))
      (pss_cons (ps_for PassesOwn.never rfl (pi_range1 rfl T.f_range (a1 (cb call_len T.f_len (a1 (pv 3))))) (pg_name (i := 6) scLAreLoads.nd rfl (.inl rfl))
        (pss_cons (ps_if (PW.pt (pw_or (pt_not (pt_val (cb call_isTy T.f_isinstance (a2 (pe_ix (ixT K) (pv 3) (pv 6) (fun _ _ => rfl)) (bty "tuple" T.f_tuple))))) (pw_or (pt_cmpR op_ne (cb call_len T.f_len (a1 (pe_ix (ixT K) (pv 3) (pv 6) (fun _ _ => rfl)))) pe_int (nomark _)) (pw_or1 (pt_not (pt_val (cl ((okLIsInt T).mono (by decide)) hr T.g__law_is_int (a3 (pe_ix (ixT K) (pe_ix (ixT K) (pv 3) (pv 6) (fun _ _ => rfl)) pe_int (fun _ _ => rfl)) pe_int (pe_op op_pow pe_int pe_int))))))))) (pss_one (ps_ret pe_bl)) pss_nil)
        (Evl.pss_cut (ps_if (PW.pt (pw_or (pt_not (pt_val (cl (okLIsWood T) hr T.g__law_is_wood (a3 (pv 0) (pe_tup (a1 (pe_ix (ixT K) (pv 0) pe_int (fun _ _ => rfl)))) (pe_ix (ixT K) (pe_ix (ixT K) (pv 3) (pv 6) (fun _ _ => rfl)) pe_int (fun _ _ => rfl)))))) (pw_or1 (PW.pt (pw_and (pt_cmpR op_gt (pv 6) pe_int (nomark _)) (pw_and1 (pt_not (pt_cmpR (ltK K (Room.units0 hr)) (pe_ix (ixT K) (pe_ix (ixT K) (pv 3) (pe_op op_sub (pv 6) pe_int) (fun _ _ => rfl)) pe_int (fun _ _ => rfl)) (pe_ix (ixT K) (pe_ix (ixT K) (pv 3) (pv 6) (fun _ _ => rfl)) pe_int (fun _ _ => rfl)) (nomark _))))))))) (pss_one (ps_ret pe_bl)) pss_nil)
        (pss_cons (ps_set (i := 5) scLAreLoads.nd rfl (.inl rfl) (pe_op op_add (pv 5) (pe_ix (ixT K) (pe_ix (ixT K) (pv 3) (pv 6) (fun _ _ => rfl)) pe_int (fun _ _ => rfl))))
        (pss_one (ps_for PassesOwn.never rfl (pi_tup (pe_ix (ixT K) (pe_ix (ixT K) (pv 3) (pv 6) (fun _ _ => rfl)) pe_int (fun _ _ => rfl))) (pg_name (i := 7) scLAreLoads.nd rfl (.inl rfl))
          (pss_one (ps_asg (pe_op op_add (pe_ix ix_list (pv 4) (pv 7) (fun _ _ => rfl)) (pe_ix (ixT K) (pe_ix (ixT K) (pv 3) (pv 6) (fun _ _ => rfl)) pe_int (fun _ _ => rfl))) (pg_sub (pv 4) (pv 7) set_list)))))))))
      (pss_one (ps_ret (pe_and (pe_cmpR op_eq (pv 5) (pv 2) (nomark _)) (pe_one (cb (cr_all rfl) T.f_all (a1 (lcn 7 (pi_range1 rfl T.f_range (a1 (cb call_len T.f_len (a1 (pv 1))))) (fun _ _ _ _ _ => pe_cmpR op_le (pe_ix (ixL K) (pv 4) (pv 7) (fun _ _ => rfl)) (pe_ix (ixT K) (pv 1) (pv 7) (fun _ _ => rfl)) (nomark _)) scLAreLoads))))))))), ?_⟩
    refine ⟨_, rfl, _, _, _, _, rfl, .base (.tup ht), (by decide +kernel : kitB "tuple" "tuple" = some true), true, rfl, ?_⟩
    refine iteF ?_
    refine ⟨by show 1 ≤ sizeLine; rw [sizeLine_eq]; decide, fun A nA => ?_⟩
    have sA : Same H (upd H A (.lst [.int 0])) := same_new nA
    refine ⟨_, rfl, _, ws.length, rfl, .inr ⟨_, SqT.of (sA _ _ hw), (vns_len _).symm⟩, A, _, [vn 0], rfl, rfl, upd_same, by omega, by omega, by rw [sizeLine_eq]; show 1 * _ ≤ _; omega, fun F nF => ?_⟩
    rw [Int.toNat_natCast, rep_zero]
    have nFH : H F = none := none_of sA nF
    have sF : Same H (upd (upd H A (.lst [.int 0])) F (.lst (vns (rowOf ws.length fun _ => 0)))) := sA.trans (same_new nF)
    have hF0 : upd (upd H A (.lst [.int 0])) F (.lst (vns (rowOf ws.length fun _ => 0))) F = some (.lst (vns (rowOf ws.length fun _ => 0))) := upd_same
    revert sF hF0
    generalize upd (upd H A (.lst [.int 0])) F (.lst (vns (rowOf ws.length fun _ => 0))) = H1
    intro sF hF0
    refine ⟨by show 2 ≤ sizeLine; rw [sizeLine_eq]; decide, fun tp ntp => ?_⟩
    have sT : Same H1 (upd H1 tp (.tup [.ref F, .int 0])) := same_new ntp
    refine ⟨tp, _, rfl, SqT.of upd_same, rfl, _, _, rfl, _, _, rfl, rfl, ?_⟩
    have s02 := sF.trans sT
    have hF2 := sT _ _ hF0
    revert s02 hF2
    generalize upd H1 tp (.tup [.ref F, .int 0]) = H2
    intro s02 hF2
    refine ⟨_, rfl, _, ras.length, rfl, .inr ⟨_, SqT.of (s02 _ _ ht), by rw [List.length_map]⟩, _, rfl, by omega, by omega, ?_⟩
    rw [Int.toNat_natCast, hlen]
    refine for_range (lo := 0) (n := rows.length) (fun i σ H' => Same H H' ∧ ∃ v6 v7 : Option V, σ = [some (.ref p), some (.ref wt), some (vn c), some (.ref t), some (.ref F), some (vn ((rows.take i).map (·.1)).sum), v6, v7] ∧ H' F = some (.lst (vns (rowOf ws.length (usedBy (rows.take i)))))) ⟨s02, none, none, rfl, hF2⟩ ?_ ?_
    · rintro i σ H3 hi ⟨s3, v6, v7, rfl, hF3⟩
      have ei : V.int (0 + (i : Int)) = vn i := by rw [Int.zero_add]; rfl
      rw [ei]
      have hr1 : rows[i]? = some rows[i] := List.getElem?_eq_getElem hi
      generalize rows[i] = r at hr1
      have hmr := List.mem_of_getElem? hr1
      obtain ⟨tr, r1, r2⟩ := GL.tree r hmr
      obtain ⟨ra, hra, ta, b1, b2⟩ := Paired.get' hrows hr1
      have hrx : (ras.map V.ref)[i]? = some (.ref ra) := by rw [List.getElem?_map, hra]; rfl
      have htk : rows.take (i + 1) = rows.take i ++ [r] := take_snoc hr1
      have ht3 := s3 _ _ ht
      have b1' := s3 _ _ b1
      have b2' := s3 _ _ b2
      refine ⟨_, rfl, _, rfl, t, _, _, _, rfl, rfl, SqT.of ht3, atI_nat hrx, _, _, _, _, rfl, .base (.tup b1'), (by decide +kernel : kitB "tuple" "tuple" = some true), true, rfl, ?_⟩
      refine iteF ?_
      refine ⟨_, rfl, _, rfl, t, _, _, _, rfl, rfl, SqT.of ht3, atI_nat hrx, _, 2, rfl, .inr ⟨_, SqT.of b1', rfl⟩, rfl, ?_⟩
      refine ⟨_, rfl, ?_⟩
      refine iteF ?_
      refine ⟨_, rfl, _, rfl, t, _, _, _, rfl, rfl, SqT.of ht3, atI_nat hrx, ra, _, 0, _, rfl, rfl, SqT.of b1', rfl, _, _, rfl, rfl, ⟨by decide, by decide, by decide⟩, _, _, _, rfl, true, ?_, ?_⟩
      · have e : decide ((1 : Int) ≤ (r.1 : Int) ∧ (r.1 : Int) ≤ (10 : Int) ^ (60 : Int).toNat) = true := decide_eq_true ⟨by omega, by
          have : (40 : Int) ≤ (10 : Int) ^ (60 : Int).toNat := by decide
          omega⟩
        rw [e]
      refine iteF ?_
      refine ⟨fun σ H5 => Same H H5 ∧ σ = [some (.ref p), some (.ref wt), some (vn c), some (.ref t), some (.ref F), some (vn ((rows.take i).map (·.1)).sum), some (vn i), v7] ∧ H5 F = some (.lst (vns (rowOf ws.length (usedBy (rows.take i))))), ?_, ?_⟩
      · -- a tree
        refine ⟨_, rfl, _, rfl, p, _, 1, _, rfl, rfl, SqT.of (s3 _ _ hp), rfl, by show 1 ≤ sizeLine; rw [sizeLine_eq]; decide, fun so nso => ?_⟩
        have s4' : Same H3 (upd H3 so (.tup [vn root])) := same_new nso
        have hso : upd H3 so (.tup [vn root]) so = some (.tup [vn root]) := upd_same
        revert s4' hso
        generalize upd H3 so (.tup [vn root]) = H4
        intro s4' hso
        have s4 := s3.trans s4'
        have ht4 := s4 _ _ ht
        have b14 := s4 _ _ b1
        have b24 := s4 _ _ b2
        refine ⟨_, rfl, _, rfl, t, _, _, _, rfl, rfl, SqT.of ht4, atI_nat hrx, ra, _, 1, _, rfl, rfl, SqT.of b14, rfl, p, so, ta, lt, n, root, es, r.2, rfl, ⟨s4 _ _ hp, hlt.same s4, hes, n2, n10, hroot, hz⟩, hso, b24, tr, fun H5 s5' => ?_⟩
        refine ⟨true, rfl, ?_⟩
        refine iteF ?_
        have s5 := s4.trans s5'
        have ht5 := s5 _ _ ht
        have b15 := s5 _ _ b1
        have b25 := s5 _ _ b2
        have hF5 := s5' _ _ (s4' _ _ hF3)
        by_cases hi0 : 0 < i
        · refine ⟨_, rfl, _, _, rfl, rfl, ?_⟩
          refine ⟨true, blT (by omega), ?_⟩
          refine iteT ?_
          obtain ⟨j, rfl⟩ : ∃ j, i = j + 1 := ⟨i - 1, by omega⟩
          have hj : j < rows.length := by omega
          have hr0 : rows[j]? = some rows[j] := List.getElem?_eq_getElem hj
          generalize rows[j] = r' at hr0
          obtain ⟨ra', hra', ta', c1, c2⟩ := Paired.get' hrows hr0
          have hrx' : (ras.map V.ref)[j]? = some (.ref ra') := by rw [List.getElem?_map, hra']; rfl
          have c15 := s5 _ _ c1
          have c25 := s5 _ _ c2
          have b25' := b25
          rw [vns_eq] at c25 b25'
          have ej : (((j + 1 : Nat) : Int) - 1) = ((j : Nat) : Int) := by omega
          refine ⟨_, rfl, _, rfl, _, _, rfl, rfl, t, _, ((j + 1 : Nat) : Int) - 1, _, rfl, rfl, SqT.of ht5, by rw [ej]; exact atI_nat hrx', ra', _, 1, _, rfl, rfl, SqT.of c15, rfl, _, rfl, _, rfl, t, _, _, _, rfl, rfl, SqT.of ht5, atI_nat hrx, ra, _, 1, _, rfl, rfl, SqT.of b15, rfl, ta', ta, _, _, rfl, rfl, SqT.of c25, SqT.of b25', ?_⟩
          have hlx : lexLt r'.2 r.2 = true := by
            have e1 : (rows.map (·.2))[j]? = some r'.2 := by rw [List.getElem?_map, hr0]; rfl
            have e2 : (rows.map (·.2))[j + 1]? = some r.2 := by rw [List.getElem?_map, hr1]; rfl
            obtain ⟨q1, q2⟩ := List.getElem?_eq_some_iff.mp e1
            obtain ⟨q3, q4⟩ := List.getElem?_eq_some_iff.mp e2
            have := (List.pairwise_iff_getElem.mp GL.asc) j (j + 1) q1 q3 (Nat.lt_succ_self j)
            rw [q2, q4] at this
            exact this
          rw [lexLt_int, hlx]
          exact ⟨true, rfl, iteF ⟨s5, rfl, hF5⟩⟩
        · refine ⟨_, rfl, _, _, rfl, rfl, ?_⟩
          refine ⟨false, blF (by omega), ?_⟩
          exact iteF (iteF ⟨s5, rfl, hF5⟩)
      · -- the rest of the turn
        rintro σ H5 ⟨s5, rfl, hF5⟩
        have ht5 := s5 _ _ ht
        have b15 := s5 _ _ b1
        have b25 := s5 _ _ b2
        refine ⟨_, rfl, _, rfl, _, rfl, t, _, _, _, rfl, rfl, SqT.of ht5, atI_nat hrx, ra, _, 0, _, rfl, rfl, SqT.of b15, rfl, _, _, rfl, rfl, ?_⟩
        refine ⟨_, rfl, _, rfl, t, _, _, _, rfl, rfl, SqT.of ht5, atI_nat hrx, ra, _, 1, _, rfl, rfl, SqT.of b15, rfl, ta, rfl, ⟨_, SqT.of b25⟩, ?_⟩
        refine for_tup (K := K) (a := ta) (xs := vns r.2) (fun j σ H' => Same H H' ∧ ∃ v7 : Option V, σ = [some (.ref p), some (.ref wt), some (vn c), some (.ref t), some (.ref F), some (.int (((((rows.take i).map (·.1)).sum : Nat) : Int) + (r.1 : Int))), some (vn i), v7] ∧ H' F = some (.lst (vns (rowOf ws.length fun z => usedBy (rows.take i) z + if z ∈ r.2.take j then r.1 else 0)))) ⟨s5, v7, rfl, by rw [hF5]; congr 4⟩ (fun j σ H' _ h => SqT.of (h.1 _ _ b2)) ?_ ?_
        · rintro j x σ H6 hj ⟨s6, v7, rfl, hF6⟩
          obtain ⟨z, hzj, rfl⟩ := vns_get hj
          have hzm := List.mem_of_getElem? hzj
          have hzw : z < ws.length := by rw [hwl]; exact tr.lt z hzm
          have hnd : r.2.Nodup := List.Pairwise.imp (fun {a b} hab => Nat.ne_of_lt hab) tr.2
          have hz0 : z ∉ r.2.take j := by
            intro q
            obtain ⟨j2, hj2⟩ := List.getElem?_of_mem q
            rw [List.getElem?_take] at hj2
            split at hj2
            · rename_i hlt
              obtain ⟨q1, q2⟩ := List.getElem?_eq_some_iff.mp hj2
              have := (List.getElem?_inj q1 hnd).mp (hj2.trans hzj.symm)
              omega
            · cases hj2
          have ht6 := s6 _ _ ht
          have b16 := s6 _ _ b1
          have hg : (vns (rowOf ws.length fun z => usedBy (rows.take i) z + if z ∈ r.2.take j then r.1 else 0))[z]? = some (vn (usedBy (rows.take i) z)) := by
            unfold vns
            rw [List.getElem?_map, rowOf_get _ hzw, if_neg hz0]
            rfl
          refine ⟨_, rfl, _, rfl, F, _, _, _, rfl, rfl, SqL.of hF6, atI_nat hg, _, rfl, _, rfl, t, _, _, _, rfl, rfl, SqT.of ht6, atI_nat hrx, ra, _, 0, _, rfl, rfl, SqT.of b16, rfl, _, _, rfl, rfl, _, rfl, _, rfl, F, _, _, z, rfl, rfl, hF6, ?_, ?_⟩
          · rw [vns_len, rowOf_len]
            exact ixNn hzw
          · refine ⟨same_mut s6 nFH, _, rfl, ?_⟩
            rw [upd_same]
            have ev : V.int (((usedBy (rows.take i) z : Nat) : Int) + (r.1 : Int)) = vn (usedBy (rows.take i) z + r.1) := by
              unfold vn
              rw [Int.natCast_add]
            show some (HO.lst ((vns _).set z (V.int (((usedBy (rows.take i) z : Nat) : Int) + (r.1 : Int))))) = _
            rw [ev, rowOf_set _ hzw]
            congr 3
            refine rowOf_congr fun y hy => ?_
            rw [take_snoc hzj]
            by_cases e : y = z
            · rw [if_pos e, e, if_pos (List.mem_append_right _ List.mem_cons_self)]
            · rw [if_neg e]
              congr 1
              have : (y ∈ r.2.take j ++ [z]) ↔ y ∈ r.2.take j := by
                rw [List.mem_append, List.mem_singleton]
                exact ⟨fun q => q.resolve_right e, .inl⟩
              by_cases c : y ∈ r.2.take j
              · rw [if_pos c, if_pos (this.mpr c)]
              · rw [if_neg c, if_neg (fun q => c (this.mp q))]
        · rintro σ H6 ⟨s6, v7, rfl, hF6⟩
          refine ⟨s6, some (vn i), v7, ?_, ?_⟩
          · have : V.int (((((rows.take i).map (·.1)).sum : Nat) : Int) + (r.1 : Int)) = vn ((rows.take (i + 1)).map (·.1)).sum := by
              rw [htk, List.map_append, List.sum_append]
              unfold vn
              simp
            rw [this]
          · rw [hF6, vns_len, List.take_length]
            congr 3
            refine rowOf_congr fun y hy => ?_
            rw [htk, usedBy_snoc]
    · rintro σ H3 ⟨s3, v6, v7, rfl, hF3⟩
      rw [List.take_length] at hF3 ⊢
      have hsum : ((rows.map (·.1)).sum : Nat) = c := GL.sum
      rw [hsum]
      refine ⟨_, rfl, _, rfl, rfl, true, ?_, ?_⟩
      · rw [decide_eq_true rfl]
      refine iteT ?_
      refine ⟨_, rfl, _, ws.length, rfl, .inr ⟨_, SqT.of (s3 _ _ hw), (vns_len _).symm⟩, _, rfl, by omega, by omega, fun D nD => ?_⟩
      rw [Int.toNat_natCast]
      refine comp_range (lo := 0) (n := ws.length) (fun _ => true) (fun _ x y => y = .bl true) nD (by rw [sizeLine_eq]; omega) (fun _ _ _ _ _ h => h) (fun _ => rfl) (fun x hx H4 s4 Qb q => q H4 (Same.refl _)) (fun x hx _ H4 s4 _ Qv q => ?_) (fun H4 ys s4 hD4 rr => ?_)
      · have e0 : V.int (0 + (x : Int)) = vn x := by rw [Int.zero_add]; rfl
        rw [e0]
        have hg : (vns (rowOf ws.length (usedBy rows)))[x]? = some (vn (usedBy rows x)) := by
          unfold vns
          rw [List.getElem?_map, rowOf_get _ hx]
          rfl
        have hwx : ws[x]? = some ws[x] := List.getElem?_eq_getElem hx
        refine ⟨_, rfl, _, rfl, F, _, _, _, rfl, rfl, SqL.of (s4 _ _ hF3), atI_nat hg, _, rfl, _, rfl, wt, _, _, _, rfl, rfl, SqT.of (s4 _ _ (s3 _ _ hw)), atI_nat (vns_at hwx), _, _, rfl, rfl, ?_⟩
        refine q _ H4 (Same.refl _) ?_
        have := GL.fits x _ hwx
        exact congrArg V.bl (decide_eq_true (by unfold usedBy; omega))
      · rw [List.filter_eq_self.mpr (fun _ _ => rfl)] at rr
        have ey := Paired.eq_map rr
        subst ey
        refine ⟨D, (List.range ws.length).map fun _ => true, rfl, by rw [List.map_map]; exact SqL.of hD4, ?_⟩
        rw [all_true _ _ (fun _ _ => rfl)]
        exact k H4 (s3.trans s4)
end
end Spt

set_option Elab.async false
set_option linter.all false
set_option maxRecDepth 100000
set_option maxHeartbeats 4000000
/-! tuple * int, none or one too -/
namespace Spt
open PySem PySem.Spec PyProof.Rows L2
theorem tuple_mul1 (l : Addr) (items : Array Value) (n : Nat) (dd : Option Addr) (sl : Array (Option Value)) (u : Tok) :
    Meets (Builtin.«tuple.__mul__» ⟨[.ref l, .int 1 u], []⟩) (fun _ R s => s.heap.get? l = some { cls := .type "tuple", dict := dd, data := .seq items n, slots := sl } ∧
      R (.ok (.ret (Value.ref l))) s) :=
  .of_wp fun prog w A R s h => by
    obtain ⟨hp, g, d, tk, os⟩ := s
    obtain ⟨hl, h⟩ := h
    have f1 := AutoSeq1.idx_int
    wp_walk using wpAny_loadPart' hl
    exact ⟨_, rfl, h⟩
theorem tuple_mul0 (l : Addr) (items : Array Value) (n : Nat) (dd : Option Addr) (sl : Array (Option Value)) (u : Tok) (c1 : items.isEmpty = false) :
    Meets (Builtin.«tuple.__mul__» ⟨[.ref l, .int 0 u], []⟩) (fun _ R s => s.heap.get? l = some { cls := .type "tuple", dict := dd, data := .seq items n, slots := sl } ∧
      R (.ok (.ret (Value.ref s.heap.objs.size))) { s with heap := s.heap.push { cls := Value.type "tuple", data := Data.seq #[] }, toks := s.toks }) :=
  .of_wp fun prog w A R s h => by
    obtain ⟨hp, g, d, tk, os⟩ := s
    obtain ⟨hl, h⟩ := h
    have f1 := AutoSeq1.idx_int
    wp_walk using wpAny_loadPart' hl
    exact ⟨_, rfl, h⟩
def rRepA (K : PySem.W.Frag) : R2 := fun x y H Q => ∃ (l : Addr) (k : Nat) (xs : List V), x = .ref l ∧ y = vn k ∧ SqT K H l xs ∧ xs ≠ [] ∧ k ≤ 1000 ∧ xs.length ≤ 1000 ∧ (k = 1 → Q (.ref l) H) ∧ (k ≠ 1 → ∀ p, H p = none → Q (.ref p) (upd H p (.tup (List.replicate k xs).flatten)))
theorem op_repA {X : Cx} : OpR X (binaryOp .Mult) (rRepA X.K) := by
  intro pins s σ H x y v u Q I rx ry h
  obtain ⟨l, k, xs, rfl, rfl, hT, hne, h2, hz, q1, q2⟩ := h
  by_cases hk : 2 ≤ k
  · exact op_repT pins s σ H _ _ v u Q I rx ry ⟨l, (k : Int), xs, rfl, rfl, hT, hne, by omega, by omega, hz, fun p np => by rw [Int.toNat_natCast]; exact q2 (by omega) p np⟩
  cases rx
  obtain ⟨t, rfl⟩ := ry
  obtain ⟨its, r, ⟨⟨cls, dd, data, sl⟩, ho, hc, n, hd⟩, hs⟩ := I.tuple hT
  simp only at hc hd
  subst hc hd
  have hle : its.length = xs.length := r.length.symm
  have hn : its ≠ [] := fun e => hne (by
    rw [e] at hle
    exact List.eq_nil_of_length_eq_zero hle.symm)
  have hi : its.toArray.isEmpty = false := by
    cases its with
    | nil => exact absurd rfl hn
    | cons a b => rfl
  rcases (show k = 0 ∨ k = 1 by omega) with rfl | rfl
  · refine wpAny_binaryOp_repeat_ref (T := "tuple") (U := "int") (by decide) ⟨_, ho, rfl⟩ (fun s' => typeIs_int s' 0 t) noFill_tuple_mul F.fills_int_mul F.slot_int_rmul repeat_tuple F.slot_int_index.lookup
      (call_meets F.slot_int_rmul (typeIs_int s 0 t) F.entry_int_rmul (F.args_int_rmul_2 _ _) (int_rmul_tuple 0 t l its.toArray n dd sl)
        ⟨ho, rfl, ⟨_, ho, rfl⟩, call_meets F.slot_tuple_mul ⟨_, ho, rfl⟩ F.entry_tuple_mul (F.args_tuple_mul_2 _ _) (tuple_mul0 l its.toArray n dd sl t hi) ⟨ho, ?_⟩⟩)
    refine ⟨.ref s.heap.objs.size, _, I.laid (t' := s.toks) (o := .tup (List.replicate 0 xs).flatten) (fun b ob q => Heap.get?_push_of_some _ q) (Nat.le_refl _) ?_, rfl, q2 (by decide) _ (I.hok.fresh (Nat.le_refl _))⟩
    exact ⟨Nat.zero_le _, [], .nil, IsTup.new _ _⟩
  · refine wpAny_binaryOp_repeat_ref (T := "tuple") (U := "int") (by decide) ⟨_, ho, rfl⟩ (fun s' => typeIs_int s' 1 t) noFill_tuple_mul F.fills_int_mul F.slot_int_rmul repeat_tuple F.slot_int_index.lookup
      (call_meets F.slot_int_rmul (typeIs_int s 1 t) F.entry_int_rmul (F.args_int_rmul_2 _ _) (int_rmul_tuple 1 t l its.toArray n dd sl)
        ⟨ho, rfl, ⟨_, ho, rfl⟩, call_meets F.slot_tuple_mul ⟨_, ho, rfl⟩ F.entry_tuple_mul (F.args_tuple_mul_2 _ _) (tuple_mul1 l its.toArray n dd sl t) ⟨ho, ?_⟩⟩)
    exact ⟨.ref l, H, I, rfl, q1 rfl⟩
end Spt

set_option Elab.async false
set_option linter.all false
set_option maxRecDepth 100000
set_option maxHeartbeats 8000000
/-! the law: some_widths -/
namespace Spt
open PySem PySem.Spec PyProof.Rows L2
theorem rep_one (m x : Nat) : (List.replicate m [vn x]).flatten = vns (List.replicate m x) := by
  induction m with
  | zero => rfl
  | succ m ih => rw [List.replicate_succ, List.flatten_cons, ih, List.replicate_succ]; rfl
section
variable {P : Program} {w : World} {K : PySem.W.Frag} {mg : Str → Option Value} {base : Heap}
theorem scLSomeWidths : FnScope ["_law_hand_here", "_law_parts", "_law_kind", "_law_most", "_law_found", "_law_link", "_law_width"] ["_law_hand_here", "_law_parts"] (defScope sLSomeWidths) := ⟨rfl, rfl, rfl, by decide +kernel, rfl, by decide +kernel, by decide +kernel⟩
def spLSomeWidths : Sp := fun vs H Q _ => ∃ (h ca : Addr) (cs : List Int) (p lt : Addr) (n root : Nat) (es : List (Nat × Nat)), vs = [.ref h, .ref p] ∧ HandO H h ca cs ∧ PartsO H p n root lt es ∧ ∀ H' wt ws, EBut h H H' → HandO H' h ca cs → WidthsO H' wt ws es → Q (.ref wt) H'
theorem okLSomeWidths (T : Txt K mg) : FnK P w K mg base CX0 3 (He.ga K "_law_some_widths") ["_law_hand_here", "_law_parts"] spLSomeWidths := by
  refine FnK.of T.d_LSomeWidths scLSomeWidths (fun _ _ _ _ _ _ us hl => match us, hl with | [_, _], _ => rfl) (fun vs H Q E h => ?_) (fun cdv A outer s H vs Q E hr h => ?_)
  · obtain ⟨h, ca, cs, p, lt, n, root, es, rfl, _⟩ := h
    rfl
  · obtain ⟨h, ca, cs, p, lt, n, root, es, rfl, hh, ⟨hp, hlt, hes, n2, n10, hroot, hz⟩, k⟩ := h
    obtain ⟨xs, hx, hxl⟩ := hlt.len
    have dr := (okLDraw (P := P) (w := w) (base := base) T)
    refine ⟨_, pss_cons (ps_par (i := 2) (j := 3) rfl scLSomeWidths.nd rfl rfl (by decide) rfl rfl (a2 (cl dr hr T.g__law_draw (a2 (pv 0) pe_int)) (pe_ix ix_list (pe_lst (a3 pe_int pe_int pe_int)) (cl dr hr T.g__law_draw (a2 (pv 0) pe_int)) (fun _ _ => rfl))) rfl)
      (pss_cons (ps_if (pt_cmpR op_eq (pv 2) pe_int (nomark _)) (pss_one (ps_ret (pe_op op_repA (pe_tup (a1 (cl dr hr T.g__law_draw (a2 (pv 0) pe_int)))) (cb call_len T.f_len (a1 (pe_ix (ixT K) (pv 1) pe_int (fun _ _ => rfl))))))) pss_nil)
      (pss_cons (ps_set (i := 4) scLSomeWidths.nd rfl (.inl rfl) (pe_lst pa_nil))
      (pss_cons (ps_for PassesOwn.never rfl (pi_tup (pe_ix (ixT K) (pv 1) pe_int (fun _ _ => rfl))) (pg_name (i := 5) scLSomeWidths.nd rfl (.inl rfl))
        (pss_cons (ps_set (i := 6) scLSomeWidths.nd rfl (.inl rfl) (cl dr hr T.g__law_draw (a2 (pv 0) (pv 3))))
        (Evl.pss_cut (ps_if (PW.pt (pw_and (pt_cmpR op_eq (pv 2) pe_int (nomark _)) (pw_and1 (pt_cmpR op_eq (cl dr hr T.g__law_draw (a2 (pv 0) pe_int)) pe_int (nomark _))))) (pss_one (ps_set (i := 6) scLSomeWidths.nd rfl (.inl rfl) (pe_ix ix_list (pe_lst (a2 pe_int pe_int)) (cl dr hr T.g__law_draw (a2 (pv 0) pe_int)) (fun _ _ => rfl)))) pss_nil)
        (pss_one (ps_expr (pe_bm PySem.F.plainAttrs_list PySem.F.slot_list_append PySem.F.type_list_append mt_append (pv 4) (a1 (pv 6))))))))
      (pss_one (ps_ret (ct call_tuple_of T.f_tuple (a1 (pv 4)))))))), ?_⟩
    refine ⟨_, rfl, h, ca, cs, 5, rfl, hh, by decide, by decide, fun H1 kind hk1 eb1 hh1 => ?_⟩
    refine ⟨by show 3 ≤ sizeLine; rw [sizeLine_eq]; decide, fun D nD => ?_⟩
    have s2 : Same H1 (upd H1 D (.lst (vns [2, 4, 21]))) := same_new nD
    have hD2 : upd H1 D (.lst (vns [2, 4, 21])) D = some (.lst (vns [2, 4, 21])) := upd_same
    obtain ⟨nDh, _⟩ := hh1.new nD
    refine ⟨_, rfl, h, ca, cs, 3, rfl, hh1.same s2, by decide, by decide, fun H3 r hr3 eb3 hh3 => ?_⟩
    have hD3 := eb3 _ _ nDh hD2
    have eb03 : EBut h H H3 := fun b o hb q => eb3 _ _ hb (s2 _ _ (eb1 _ _ hb q))
    obtain ⟨most, hmost⟩ : ∃ m, ([2, 4, 21] : List Nat)[r]? = some m := ⟨_, List.getElem?_eq_getElem hr3⟩
    have hmb : 0 < most ∧ most ≤ 21 := (by decide : ∀ n ∈ ([2, 4, 21] : List Nat), 0 < n ∧ n ≤ 21) most (List.mem_of_getElem? hmost)
    refine ⟨D, _, (r : Nat), vn most, rfl, rfl, SqL.of hD3, atI_nat (vns_at hmost), ?_⟩
    refine ⟨_, _, rfl, ?_⟩
    refine ⟨_, rfl, rfl, ?_⟩
    refine ⟨_, rfl, ?_⟩
    show if decide (vn kind = V.int 0) = true then _ else _
    have tk : ∀ {H' : Hp}, EBut h H H' → ∀ a xs, H a = some (.tup xs) → H' a = some (.tup xs) := fun e => hh.tupKeep e
    cases c0 : decide (vn kind = V.int 0) with
    | true =>
      refine iteT ?_
      refine ⟨_, rfl, h, ca, cs, 21, rfl, hh3, by decide, by decide, fun H4 x hx4 eb4 hh4 => ?_⟩
      have eb04 : EBut h H H4 := fun b o hb q => eb4 _ _ hb (eb03 _ _ hb q)
      refine ⟨by show 1 ≤ sizeLine; rw [sizeLine_eq]; decide, fun t nt => ?_⟩
      have s5 : Same H4 (upd H4 t (.tup [vn x])) := same_new nt
      have ht5 : upd H4 t (.tup [vn x]) t = some (.tup [vn x]) := upd_same
      revert s5 ht5
      generalize upd H4 t (.tup [vn x]) = H5
      intro s5 ht5
      have eb05 : EBut h H H5 := fun b o hb q => s5 _ _ (eb04 _ _ hb q)
      have hh5 := hh4.same s5
      refine ⟨_, rfl, p, _, 2, _, rfl, rfl, SqT.of (tk eb05 _ _ hp), rfl, _, es.length, rfl, .inr ⟨_, SqT.of (tk eb05 _ _ hx), hxl.symm⟩, t, es.length, [vn x], rfl, rfl, SqT.of ht5, (fun z => nomatch z), by omega, by show 1 ≤ 1000; decide, fun e1 => ?_, fun _ wt nwt => ?_⟩
      · refine k H5 t [x] eb05 hh5 ⟨ht5, e1.symm, fun y hy => ?_⟩
        rw [List.mem_singleton.mp hy]
        omega
      · have s6 : Same H5 (upd H5 wt (.tup (List.replicate es.length [vn x]).flatten)) := same_new nwt
        refine k _ wt (List.replicate es.length x) (fun b o hb q => s6 _ _ (eb05 _ _ hb q)) (hh5.same s6) ⟨by rw [upd_same, rep_one], List.length_replicate, fun y hy => ?_⟩
        rw [(List.mem_replicate.mp hy).2]
        omega
    | false =>
      refine iteF ?_
      refine ⟨by show 0 ≤ sizeLine; omega, fun F nF => ?_⟩
      have s4 : Same H3 (upd H3 F (.lst [])) := same_new nF
      have hF4 : upd H3 F (.lst []) F = some (.lst (vns [])) := upd_same
      obtain ⟨nFh, nFc⟩ := hh3.new nF
      have nF0 : H F = none := by
        cases q : H F with
        | none => rfl
        | some o =>
          have := eb03 _ _ nFh q
          rw [nF] at this
          cases this
      revert s4 hF4
      generalize upd H3 F (.lst []) = H4
      intro s4 hF4
      have eb04 : EBut h H H4 := fun b o hb q => s4 _ _ (eb03 _ _ hb q)
      have hh4 := hh3.same s4
      refine ⟨_, rfl, p, _, 2, _, rfl, rfl, SqT.of (tk eb04 _ _ hp), rfl, lt, rfl, ⟨_, SqT.of (tk eb04 _ _ hx)⟩, ?_⟩
      refine for_tup (K := K) (a := lt) (xs := xs) (fun i σ H' => EBut h H H' ∧ HandO H' h ca cs ∧ ∃ ws : List Nat, H' F = some (.lst (vns ws)) ∧ ws.length = i ∧ (∀ x ∈ ws, x ≤ 20) ∧ ∃ v5 v6 : Option V, σ = [some (.ref h), some (.ref p), some (vn kind), some (vn most), some (.ref F), v5, v6]) ⟨eb04, hh4, [], hF4, rfl, fun _ z => (nomatch z), none, none, rfl⟩ (fun i σ H' _ z => SqT.of (tk z.1 _ _ hx)) ?_ ?_
      · rintro i x σ H5 hi ⟨eb5, hh5, ws, hF5, hl5, hb5, v5, v6, rfl⟩
        have hi60 : i < 60 := by
          have := (List.getElem?_eq_some_iff.mp hi).1
          omega
        refine ⟨_, rfl, _, rfl, h, ca, cs, most, rfl, hh5, hmb.1, by omega, fun H6 wd hwd eb6 hh6 => ?_⟩
        refine ⟨fun σ H' => EBut h H H' ∧ HandO H' h ca cs ∧ H' F = some (.lst (vns ws)) ∧ ∃ wd' : Nat, wd' ≤ 20 ∧ σ = [some (.ref h), some (.ref p), some (vn kind), some (vn most), some (.ref F), some x, some (vn wd')], ?_, ?_⟩
        · have eb06 : EBut h H H6 := fun b o hb q => eb6 _ _ hb (eb5 _ _ hb q)
          have hF6 := eb6 _ _ nFh hF5
          refine ⟨_, rfl, rfl, ?_⟩
          refine ⟨_, rfl, ?_⟩
          show if decide (vn kind = V.int 1) = true then _ else _
          cases decide (vn kind = V.int 1) with
          | false => exact iteF (iteF ⟨eb06, hh6, hF6, wd, by omega, rfl⟩)
          | true =>
            refine iteT ?_
            refine ⟨_, rfl, h, ca, cs, 3, rfl, hh6, by decide, by decide, fun H7 r7 hr7 eb7 hh7 => ?_⟩
            refine ⟨rfl, _, rfl, ?_⟩
            have eb07 : EBut h H H7 := fun b o hb q => eb7 _ _ hb (eb06 _ _ hb q)
            have hF7 := eb7 _ _ nFh hF6
            cases decide (vn r7 = V.int 0) with
            | false => exact iteF ⟨eb07, hh7, hF7, wd, by omega, rfl⟩
            | true =>
              refine iteT ?_
              refine ⟨by show 2 ≤ sizeLine; rw [sizeLine_eq]; decide, fun D8 nD8 => ?_⟩
              have s8 : Same H7 (upd H7 D8 (.lst (vns [0, 20]))) := same_new nD8
              have hD8 : upd H7 D8 (.lst (vns [0, 20])) D8 = some (.lst (vns [0, 20])) := upd_same
              obtain ⟨nD8h, _⟩ := hh7.new nD8
              refine ⟨_, rfl, h, ca, cs, 2, rfl, hh7.same s8, by decide, by decide, fun H9 r9 hr9 eb9 hh9 => ?_⟩
              have hD9 := eb9 _ _ nD8h hD8
              obtain ⟨wv, hwv⟩ : ∃ m, ([0, 20] : List Nat)[r9]? = some m := ⟨_, List.getElem?_eq_getElem hr9⟩
              have hwb : wv ≤ 20 := (by decide : ∀ n ∈ ([0, 20] : List Nat), n ≤ 20) wv (List.mem_of_getElem? hwv)
              refine ⟨D8, _, (r9 : Nat), vn wv, rfl, rfl, SqL.of hD9, atI_nat (vns_at hwv), ?_⟩
              exact ⟨fun b o hb q => eb9 _ _ hb (s8 _ _ (eb07 _ _ hb q)), hh9, eb9 _ _ nFh (s8 _ _ hF7), wv, hwb, rfl⟩
        · rintro σ H7 ⟨eb7, hh7, hF7, wd', hw', rfl⟩
          refine ⟨_, rfl, .inl ⟨rfl, _, SqL.of hF7⟩, _, rfl, F, _, _, rfl, rfl, hF7, by rw [vns_len, sizeLine_eq]; omega, ?_⟩
          refine ⟨fun b o hb q => ?_, hh7.upd nFh nFc, ws ++ [wd'], by rw [upd_same, vns_app]; rfl, by rw [List.length_append, hl5]; rfl, fun y hy => ?_, _, _, rfl⟩
          · rw [upd_ne (ne_of_none q nF0)]
            exact eb7 _ _ hb q
          · rcases List.mem_append.mp hy with hy | hy
            · exact hb5 y hy
            · rw [List.mem_singleton.mp hy]; exact hw'
      · rintro σ H5 ⟨eb5, hh5, ws, hF5, hl5, hb5, v5, v6, rfl⟩
        refine ⟨_, rfl, F, _, rfl, .inl ⟨SqL.of hF5, fun wt nwt => ?_⟩⟩
        have s6 : Same H5 (upd H5 wt (.tup (vns ws))) := same_new nwt
        exact k _ wt ws (fun b o hb q => s6 _ _ (eb5 _ _ hb q)) (hh5.same s6) ⟨upd_same, by rw [hl5, hxl], hb5⟩
end
end Spt

set_option Elab.async false
set_option linter.all false
set_option maxRecDepth 100000
set_option maxHeartbeats 4000000
/-! isinstance of a caught error that has its own dict; the law: barred -/
namespace Spt
open PySem PySem.Spec PyProof.Rows L2 LamX
/-- isinstance(e, c), e the exception that the suite holds, its dict at dd -/
def rIsED (K : PySem.W.Frag) (D a dd : Addr) : List V → Hp → VK → Prop := fun xs H Q => ∃ (c : V) (cv : Value) (b : Bool) (fs : List (Str × V)), xs = [.ref a, c] ∧ (∀ u, RelV c u → u = cv) ∧ PySem.W.kitOne K (.ref D) cv = some b ∧ H dd = some (.xd fs) ∧ Q (.bl b) H
theorem call_isED {X : Cx} {a D dd : Addr} {oe : Obj} {pn : List (Addr × Obj)} (F : InsF X.K D) (G : XfC X.K D) (hz : Zc (.ref D) (some dd) oe) (hf : ∃ vs, oe.data = .fields vs) : CallR (X.suite a ((a, oe) :: pn)) (.builtin "isinstance") (rIsED X.K D a dd) := by
  intro pins s σ H xs us Q I r h
  obtain ⟨c, cv, b, fs, rfl, hcv, e, hdd, q⟩ := h
  cases r with
  | cons rx rr =>
    cases rr with
    | cons rt rr =>
      cases rr
      cases rx
      have ec := hcv _ rt
      subst ec
      obtain ⟨hget, _⟩ := I.pin (a, oe) (List.mem_append.mpr (.inl List.mem_cons_self))
      obtain ⟨vs, hv⟩ := hf
      have hx : ObjOk X.prog X.w H s.heap dd (.xd fs) := I.hok dd _ hdd
      obtain ⟨mA, hns, hr⟩ := hx
      obtain ⟨od, ho, hl⟩ := lookIn_ns hns
      have J : PySem.W.InstAt s.heap a oe D (some od) := ⟨hget, hz.1, by unfold PySem.W.notCls; rw [hv] <;> rfl, by rw [hz.2]; exact ho⟩
      obtain ⟨cd, hc, _⟩ := PySem.W.any_some G.hdC
      exact PySem.W.kia_one (PySem.W.kitx_exc (by rw [hc]; rfl) G.ga G.gg G.exC F.ha F.hn F.ht F.hm) I.kIn J e (fun z => nomatch z) fun tk => ⟨.bl b, H, I.kept (t' := tk) fun _ _ z => z, rfl, q⟩
end Spt

set_option Elab.async false
set_option linter.all false
set_option maxRecDepth 100000
set_option maxHeartbeats 8000000
/-! the law: barred -/
namespace Spt
open PySem PySem.Spec PyProof.Rows L2 LamX
section
variable {P : Program} {w : World} {K : PySem.W.Frag} {mg : Str → Option Value} {base : Heap}
theorem scLBarred : FnScope ["_law_call", "_law_found", "e"] ["_law_call"] (defScope sLBarred) := ⟨rfl, rfl, rfl, by decide +kernel, rfl, by decide +kernel, by decide +kernel⟩
/-- barred(lambda: ..) -/
def TBar (K : PySem.W.Frag) : (XK → Hp → VK → Prop) → Hp → VK → Prop := fun tl H Q => ∀ p0, H p0 = none →
  tl (fun cls d H' => cls = .ref (He.ga K "Barred") ∧ ∃ dd v, d = some dd ∧ H' dd = some (.xd [("side", v)]) ∧ ∀ p, H' p = none → Q (.ref p) (upd H' p (.tup [.str "barred", v]))) (upd H p0 (.tup [.str "other", .non]))
    (fun v H' => [V.str "told", v].length ≤ sizeLine ∧ ∀ p, H' p = none → ∃ u, (some (some (V.ref p)) : Option (Option V)) = some (some u) ∧ Q u (upd H' p (.tup [.str "told", v])))
theorem takes_len {X : Cx} {W : WX} (tk : Takes X W) : Takes X (fun cls d σ H => σ.length = X.N.length → W cls d σ H) := fun u s' ⟨a, B, sI, pins, σ, H, cls, d, e, I, nb, up, sky, na, os, ag, w⟩ =>
  tk u s' ⟨a, B, sI, pins, σ, H, cls, d, e, I, nb, up, sky, na, os, ag, w I.len⟩
def sufB : List Stmt := match defBody sLBarred with
  | [_, .Try _ [.ExceptHandler _ _ b _] _ _ _, _] => b
  | _ => []
theorem barred_gives {X : Cx} (T : Txt X.K X.mg) {g : Addr} {cdg : Value} {q : Str} : GivesTo X ["_law_call", "_law_found", "e"] "_law_barred" (defScope sLBarred) g cdg (defBody sLBarred) "_law_call" q (TBar X.K) := by
  intro f c' s H Q tl act hc h
  refine ⟨_, pss_cons (ps_set (i := 1) scLBarred.nd rfl (.inl rfl) (pe_tup (a2 pe_str pe_non)))
    (pss_cons (ps_try_as (X := (cxOf C8.CX0 X.prog X.w X.K X.mg X.base ["_law_call", "_law_found", "e"] "_law_barred" (defScope sLBarred) g cdg X.A X.stack s H C8.E0).nox) (i := 2) (c := .ref (He.ga X.K "Barred"))
      (tb := fun W D σ H => ∃ Ech : XK, (∀ cls d σ' H', Ech cls d H' → σ'.length = 3 → W cls d σ' H') ∧ tAsg (tTup (tCons (tC (.str "told")) (tCons (fun σZ HZ Q => σZ[0]? = some (some (.ref f)) ∧ HZ c' = some (CodeO c' q) ∧ tl Ech HZ Q) tNil))) (gName 1) D σ H)
      (ts := fun a cls d D σ H' => ∃ t : TS, (∀ oe pn, Zc cls d oe → (∃ vs, oe.data = .fields vs) → PSs ((cxOf C8.CX0 X.prog X.w X.K X.mg X.base ["_law_call", "_law_found", "e"] "_law_barred" (defScope sLBarred) g cdg X.A X.stack s H C8.E0).nox.suite a ((a, oe) :: pn)) sufB t) ∧ t D σ H')
      rfl rfl scLBarred.nd rfl rfl ⟨rfl, by decide, .inl T.g_Barred⟩ L2.takes0 (fun W pn xe tk _ => ⟨fun pins s' σ H' D I h' => ?_⟩) (fun a oe cls d pn hz hf => ⟨fun pins s' σ H' D I h' => ?_⟩))
    (pss_one (ps_ret (pv 1)))), ?_⟩
  · obtain ⟨Ech, hW, h'⟩ := h'
    have hp := fun p1 p2 => act _ pn xe Ech p1 p2 (takes_len tk) (fun cls d σ' H' e => hW cls d σ' H' e)
    exact (pss_one (ps_set (i := 1) scLBarred.nd rfl (.inl rfl) (pe_tup (a2 pe_str (hp _ _))))).run pins s' σ H' D I h'
  · obtain ⟨t, ht, h'⟩ := h'
    exact (ht oe pn hz hf).run pins s' σ H' D I h'
  · refine ⟨by show 2 ≤ sizeLine; rw [sizeLine_eq]; decide, fun p0 np0 => ?_⟩
    have s1 : Same H (upd H p0 (.tup [.str "other", .non])) := same_new np0
    refine ⟨_, ?_, rfl, s1 _ _ hc, h p0 np0⟩
    rintro cls d σ' H' ⟨rfl, dd, v, rfl, hdd, kk⟩ hl
    match σ', hl with
    | [x0, x1, x2], _ =>
      refine ⟨true, T.x_Barred, fun _ a na => ⟨_, fun oe pn hz hf => pss_cons (ps_set (i := 1) scLBarred.nd rfl (.inl rfl) (pe_tup (a2 pe_str (pe_xf T.ex.xf T.ex.noSide hz hf (pv 2)))))
        (pss_one (ps_if (PW.pt (pw_or (pt_not (pt_val (cb (call_isED T.ex.bar T.ex.xf hz hf) T.f_isinstance (a2 (pv 2) (pe_glob (v := .ref (He.ga X.K "TreeError")) rfl T.g_TreeError rfl))))) (pw_or1 (pt_val (cb (call_isED T.ex.bar T.ex.xf hz hf) T.f_isinstance (a2 (pv 2) (pe_glob (v := .ref (He.ga X.K "NoNumber")) rfl T.g_NoNumber rfl)))))))
          (pss_one (ps_set (i := 1) scLBarred.nd rfl (.inl rfl) (pe_tup (a2 pe_str pe_non)))) pss_nil)), ?_⟩, fun z => nomatch z⟩
      refine ⟨_, rfl, rfl, rfl, dd, [("side", v)], v, rfl, hdd, rfl, by show 2 ≤ sizeLine; rw [sizeLine_eq]; decide, fun p np => ?_⟩
      have hdd2 : upd H' p (.tup [.str "barred", v]) dd = some (.xd [("side", v)]) := by rw [upd_ne (ne_of_none hdd np)]; exact hdd
      refine ⟨_, rfl, .ref (He.ga X.K "TreeError"), .ref (He.ga X.K "TreeError"), true, _, rfl, fun u e => e, T.ex.isT, hdd2, true, rfl, ?_⟩
      refine iteF ?_
      refine ⟨_, rfl, .ref (He.ga X.K "NoNumber"), .ref (He.ga X.K "NoNumber"), false, _, rfl, fun u e => e, T.ex.isN, hdd2, false, rfl, ?_⟩
      refine iteF ?_
      exact ⟨_, rfl, kk p np⟩
end
end Spt

set_option Elab.async false
set_option linter.all false
set_option maxRecDepth 100000
set_option maxHeartbeats 8000000
/-! the law: a def that makes lambdas; barred(lambda: ..), called -/
namespace Spt
open PySem PySem.Spec PyProof.Rows L2 LamX
section
variable {P : Program} {w : World} {K : PySem.W.Frag} {mg : Str → Option Value} {base : Heap}
/-- a def that raises nothing and makes lambdas: its code object is told -/
theorem FnK.ofC {x qual : Str} {st : Stmt} {N ps : List Str} {k : Nat} {sp : Sp} (d : ∃ fd, FunD K x qual (defArgs st) (defBody st) (defScope st) [] [] (He.ga K x) fd) (S : FnScope N ps (defScope st)) (hb : PlainB x qual st ps) (len : ∀ vs H Q E, sp vs H Q E → vs.length = ps.length)
    (hbody : ∀ (A : Around) (outer : List Env) (s : Shared) (H : Hp) (vs : List V) (Q : VK) (E : XK), Room k (A.deeper (envOfC qual (defScope st) s.heap.objs.size (He.ga K x) (.ref (He.codeOf K (x, none))))) → sp vs H Q E →
      ∃ t, PSs (cxOf CX0 P w K mg base N qual (defScope st) (He.ga K x) (.ref (He.codeOf K (x, none))) A outer s H E).nox (defBody st) t ∧ t { nx := fun _ H' => Q .non H', rt := Q } (start N vs) H) : FnK P w K mg base CX0 (k + 1) (He.ga K x) ps sp := by
  obtain ⟨fd, F⟩ := d
  refine ⟨fd, ?_, FunD.bindsN F hb, F.kp⟩
  obtain ⟨oc, od, dV, kV, doc, pm, an, cdv, ct, osl, rfl, lk, hcd, _, _⟩ := F.ex
  obtain ⟨c, rfl⟩ := He.codeIn_ref hcd
  have e : He.codeOf K (x, none) = c := He.codeOf_eq (p := (x, none)) lk rfl
  subst e
  refine fn_of lk hcd S len fun A outer s H vs Q E hr hsp => ?_
  obtain ⟨t, h, q⟩ := hbody A outer s H vs Q E hr hsp
  exact ⟨t, h.nox, q⟩
end
section
variable {X : Cx}
/-- _law_barred(lambda: body) -/
theorem pe_bar (T : Txt X.K X.mg) {Ts : List (Addr × Str)} {c Pt : Addr} {k : Nat} {params : Arguments} {body : Expr} {scope : Scope} {t : XK → TE} {p lpos pos : Pos} (hbody : ∀ (A : Around) (outer : List Env) (s : Shared) (H : Hp) (E : XK) (f c' : Addr), Room k (A.deeper (lamEnv X scope s.heap.objs.size f c')) → PE (lamCx X A outer s H E scope f c') body (t E))
    (TB : TabB X.base X.mg c Pt) (hcode : X.env.code = .ref c) (hmT : (Pt, X.env.qual ++ "<lambda>") ∈ Ts) (hu : ∀ p ∈ Ts, p.1 = Pt → p.2 = X.env.qual ++ "<lambda>") (hr : Room (k + 2) X.A) (L : LamS X.env.scope scope) (hdef : defaultsOf params X.env = ([], []))
    (hbind : ∀ (q : Str) (cl : List (Str × Addr)) (pm cv ctv : Value), bindArgs (PySem.W.kla_fn "<lambda>" q params body scope cl pm cv ctv) ⟨[], []⟩ = pure []) (hg : Gl X "_law_barred" := by rfl) : PE X (.Call (.Name "_law_barred" p) [.Lambda params body scope lpos] [] pos) (tLam Ts (TBar X.K) t) := by
  obtain ⟨fd, F⟩ := T.d_LBarred
  have hb := FunD.bindsN (ps := ["_law_call"]) F (fun _ _ _ _ _ _ us hl => match us, hl with | [_], _ => rfl)
  obtain ⟨oc, od, dV, kV, doc, pm, an, cdv, ct, osl, rfl, lk, hcd, _, _⟩ := F.ex
  exact pe_lamcall hg T.g__law_barred F.kp lk hcd hb scLBarred rfl (.inl rfl) (barred_gives T) TB hcode hmT hu hr L hdef hbind hbody
/-- loads(..), in a lambda -/
theorem lam_loads (T : Txt X.K X.mg) {A : Around} {outer : List Env} {s : Shared} {H : Hp} {E : XK} {scope : Scope} {f c' : Addr} (hr : Room 5 (A.deeper (lamEnv X scope s.heap.objs.size f c'))) {e1 e2 e3 : Expr} {t : TA} {p pos : Pos} (ha : PA (lamCx X A outer s H E scope f c') [e1, e2, e3] t)
    (hg : Gl (lamCx X A outer s H E scope f c') "loads" := by rfl) (he : starEach [e1, e2, e3] (lamEnv X scope s.heap.objs.size f c') = (false, eval e1 (lamEnv X scope s.heap.objs.size f c')) :: starEach [e2, e3] (lamEnv X scope s.heap.objs.size f c') := by rfl) (hpl : (backTo pos (starEach [e2, e3] (lamEnv X scope s.heap.objs.size f c'))).any (·.1) = false := by rfl) :
    PE (lamCx X A outer s H E scope f c') (.Call (.Name "loads" p) [e1, e2, e3] [] pos) (tCall (spLoads X.K) [] E t) := by
  obtain ⟨fd, F, b, kp⟩ := okLoads (P := X.prog) (w := X.w) (base := X.base) T
  exact pe_call (X := lamCx X A outer s H E scope f c') F hr hg T.g_loads kp b .nil (L2.passes_call (L2.takes_of rfl rfl rfl rfl) (fun _ _ _ _ h => h)) ha (by decide) he hpl
end
end Spt

set_option Elab.async false
set_option linter.all false
set_option maxRecDepth 100000
set_option maxHeartbeats 4000000
/-! repr of a tuple of small numbers; == and != of pairs (text, tuple of numbers) -/
namespace Spt
open PySem PySem.Spec PyProof.Rows L2
def pyNs (l : List Nat) : List PyData := (l.map fun n : Nat => (n : Int)).map PyData.int
/-- what repr shows of a tuple -/
def shownN (l : List Nat) : Str := (PyData.tuple (pyNs l)).shown
theorem pyNs_facts : ∀ {l : List Nat}, (∀ x ∈ l, x < 1024) → PyData.showableAll (pyNs l) = true ∧ PyData.hasDictAll (pyNs l) = false ∧ PyData.depthAll (pyNs l) = 0 ∧ PyData.leavesShortAll 13 (pyNs l) = true ∧ PyData.weightAll (pyNs l) ≤ 20 * l.length
  | [], _ => ⟨rfl, rfl, rfl, rfl, Nat.le_refl _⟩
  | x :: l, h => by
    obtain ⟨h1, h2, h3, h4, h5⟩ := pyNs_facts fun y hy => h y (List.mem_cons_of_mem _ hy)
    have hx := h x List.mem_cons_self
    have e : (x : Int).natAbs = x := rfl
    have hlog : x.log2 ≤ 10 := by
      by_cases h0 : x = 0
      · rw [h0]; decide
      · have := (Nat.log2_lt h0 (k := 10)).mpr hx
        omega
    have hw : PyData.weight (.int (x : Int)) ≤ 11 := by
      show (if (x : Int) == 0 then 0 else (x : Int).natAbs.log2 + 1) ≤ 11
      split
      · omega
      · rw [e]; omega
    refine ⟨?_, ?_, ?_, ?_, ?_⟩
    · show (PyData.showable (.int (x : Int)) && PyData.showableAll (pyNs l)) = true
      rw [h1, Bool.and_true]
      show decide ((x : Int).natAbs.log2 < 1920) = true
      rw [e]
      exact decide_eq_true (by omega)
    · show (PyData.hasDict (.int (x : Int)) || PyData.hasDictAll (pyNs l)) = false
      rw [h2]
      rfl
    · show max (PyData.depth (.int (x : Int))) (PyData.depthAll (pyNs l)) = 0
      rw [h3]
      rfl
    · show (PyData.leavesShort 13 (.int (x : Int)) && PyData.leavesShortAll 13 (pyNs l)) = true
      rw [h4, Bool.and_true]
      exact decide_eq_true (PyData.shown_int_le (by rw [e]; exact Nat.lt_of_lt_of_le hx (by decide)))
    · show PyData.weight (.int (x : Int)) + 1 + PyData.weightAll (pyNs l) ≤ 20 * (l.length + 1)
      omega
theorem shownN_fits {l : List Nat} (h : ∀ x ∈ l, x < 1024) (hl : l.length ≤ 1000) : (shownN l).length ≤ sizeLine := by
  obtain ⟨_, _, _, h4, h5⟩ := pyNs_facts h
  refine PyData.shown_fits (B := 13) (by decide) (by decide) (d := .tuple (pyNs l)) h4 ?_
  show PyData.weightAll (pyNs l) ≤ 2 ^ 20
  omega
def rReprN (K : PySem.W.Frag) : List V → Hp → VK → Prop := fun xs H Q => ∃ (a : Addr) (l : List Nat), xs = [.ref a] ∧ SqT K H a (vns l) ∧ (∀ x ∈ l, x < 1024) ∧ l.length ≤ 1000 ∧ Q (.str (shownN l)) H
theorem call_reprN {X : Cx} (hg : X.A.guards = some []) (hu : X.A.units + 64 < cLine) : CallR X (.builtin "repr") (rReprN X.K) := by
  intro pins s σ H xs us Q I r h
  obtain ⟨a, l, rfl, ht, hb, hl, q⟩ := h
  obtain ⟨u, rfl, ru⟩ := vals1 r
  obtain rfl : u = Value.ref a := ru
  obtain ⟨its, rv, hT, _⟩ := I.tuple ht
  obtain ⟨h1, h2, h3, h4, h5⟩ := pyNs_facts hb
  rw [vns_eq] at rv
  have hR : Reads s.heap (.ref a) (.tuple (pyNs l)) [] := reads_tuple_ints hT rv.ints
  refine repr_of_reads' hR h1 (fun z => by rw [show PyData.hasDict (.tuple (pyNs l)) = PyData.hasDictAll (pyNs l) from rfl, h2] at z; cases z) hg (by show X.A.units + (PyData.depthAll (pyNs l) + 1 + 1) < cLine; rw [h3]; omega) (fun _ _ e => e) (fun h' u tk hk => ?_) (shownN_fits hb hl)
  exact ⟨.str (shownN l), H, I.kept (t' := tk) hk, ⟨u, rfl⟩, q⟩
/-- == of (text, tuple) with (the same text, a tuple of the same) -/
def rEqPair (K : PySem.W.Frag) : R2 := fun x y H Q => ∃ (a b c d : Addr) (t : Str) (l : List Nat), x = .ref a ∧ y = .ref b ∧ H a = some (.tup [.str t, .ref c]) ∧ H b = some (.tup [.str t, .ref d]) ∧ SqT K H c (vns l) ∧ SqT K H d (vns l) ∧ Q (.bl true) H
def rNePair (K : PySem.W.Frag) : R2 := fun x y H Q => ∃ (a b c d : Addr) (t : Str) (l : List Nat), x = .ref a ∧ y = .ref b ∧ H a = some (.tup [.str t, .ref c]) ∧ H b = some (.tup [.str t, .ref d]) ∧ SqT K H c (vns l) ∧ SqT K H d (vns l) ∧ Q (.bl false) H
theorem pair_raw {X : Cx} {pins : List (Addr × Obj)} {σ : L2.St} {H : Hp} {s : Shared} (I : Inv X pins σ H s) {A : Around} {a b c d : Addr} {t : Str} {l : List Nat} (ha : H a = some (.tup [.str t, .ref c])) (hb : H b = some (.tup [.str t, .ref d])) (hc : SqT X.K H c (vns l)) (hd : SqT X.K H d (vns l)) (hu : A.in1.units < cLine) :
    ∃ its its2 : Array Value, its.size = 2 ∧ its2.size = 2 ∧ IsTup s.heap a its ∧ IsTup s.heap b its2 ∧ ∀ j (h1 : j < its.size) (h2 : j < its2.size), SeqAt.EqAt A.in1 s its[j] its2[j] true := by
  obtain ⟨i1, r1, t1, _⟩ := I.tuple (SqT.of (K := X.K) ha)
  obtain ⟨i2, r2, t2, _⟩ := I.tuple (SqT.of (K := X.K) hb)
  obtain ⟨i3, r3, t3, _⟩ := I.tuple hc
  obtain ⟨i4, r4, t4, _⟩ := I.tuple hd
  rw [vns_eq] at r3 r4
  obtain ⟨u1, u2, rfl, ra, rb⟩ := vals2 r1
  obtain ⟨v1, v2, rfl, rc, rd⟩ := vals2 r2
  obtain ⟨k1, rfl⟩ := ra
  obtain ⟨k2, rfl⟩ := rc
  obtain rfl : u2 = Value.ref c := rb
  obtain rfl : v2 = Value.ref d := rd
  refine ⟨_, _, rfl, rfl, t1, t2, fun j h1 h2 => ?_⟩
  match j, h1 with
  | 0, _ =>
    have q := SeqAt.EqAt.str_str (A := A.in1) (s := s) t k1 t k2
    rw [beq_self_eq_true] at q
    exact q
  | 1, _ =>
    have q := eqAt_tupI (A := A.in1) t3 t4 r3.ints r4.ints hu
    rw [decide_eq_true rfl] at q
    exact q
theorem op_eqPair {X : Cx} (hu : X.A.units + 64 < cLine) : OpR X (compareOp .Eq) (rEqPair X.K) := by
  intro pins s σ H x y v u Q I rx ry h
  obtain ⟨a, b, c, d, t, l, rfl, rfl, ha, hb, hc, hd, q⟩ := h
  obtain rfl : v = Value.ref a := rx
  obtain rfl : u = Value.ref b := ry
  obtain ⟨its, its2, z1, z2, t1, t2, he⟩ := pair_raw (A := X.A) I ha hb hc hd (show X.A.units + 1 < cLine by omega)
  refine SeqAt.RcAt.tuples (A := X.A) (e := fun _ => true) t1 t2 (by omega) he X.prog X.w _ _ ?_
  rw [z1, z2]
  exact ⟨.bl true, H, I, rfl, q⟩
theorem op_nePair {X : Cx} (hu : X.A.units + 64 < cLine) : OpR X (compareOp .NotEq) (rNePair X.K) := by
  intro pins s σ H x y v u Q I rx ry h
  obtain ⟨a, b, c, d, t, l, rfl, rfl, ha, hb, hc, hd, q⟩ := h
  obtain rfl : v = Value.ref a := rx
  obtain rfl : u = Value.ref b := ry
  obtain ⟨its, its2, z1, z2, t1, t2, he⟩ := pair_raw (A := X.A) I ha hb hc hd (show X.A.units + 1 < cLine by omega)
  refine SeqAt.RcNeAt.tuples (A := X.A) (e := fun _ => true) t1 t2 (by omega) he X.prog X.w _ _ ?_
  rw [z1, z2]
  exact ⟨.bl false, H, I, rfl, q⟩
end Spt

set_option Elab.async false
set_option linter.all false
set_option maxRecDepth 100000
set_option maxHeartbeats 8000000
/-! defs that ask for an open repr: their promise where no repr is under way -/
namespace Spt
open PySem PySem.Spec PyProof.Rows L2 LamX
/-- the def at f keeps sp wherever no repr is under way -/
def FnG (P : Program) (w : World) (K : PySem.W.Frag) (mg : Str → Option Value) (base : Heap) (k : Nat) (f : Addr) (ps : List Str) (sp : Sp) : Prop :=
  ∃ fd, (∀ (A : Around) (outer : List Env) (s : Shared) (H : Hp) (args : Args) (us : List Value) (vs : List V) (Q : VK) (E : XK), Room k A → A.guards = some [] → Env0 P w K mg base A outer s H → BindsTo s fd args (ps.zip us) → Vals vs us → sp vs H Q E →
    codeAny (model P w) A (.call (.ref f) args) (CR CX0 outer P w H s Q E) s) ∧ Binds K fd ps [] ∧ PySem.W.keepIn K (.ref f) = true ∧ ∀ vs H Q E, sp vs H Q E → vs.length = ps.length
section
variable {P : Program} {w : World} {K : PySem.W.Frag} {mg : Str → Option Value} {base : Heap}
theorem FnG.ofC {x qual : Str} {st : Stmt} {N ps : List Str} {k : Nat} {sp : Sp} (d : ∃ fd, FunD K x qual (defArgs st) (defBody st) (defScope st) [] [] (He.ga K x) fd) (S : FnScope N ps (defScope st)) (hb : PlainB x qual st ps) (len : ∀ vs H Q E, sp vs H Q E → vs.length = ps.length)
    (hbody : ∀ (A : Around) (outer : List Env) (s : Shared) (H : Hp) (vs : List V) (Q : VK) (E : XK), Room k (A.deeper (envOfC qual (defScope st) s.heap.objs.size (He.ga K x) (.ref (He.codeOf K (x, none))))) → (A.deeper (envOfC qual (defScope st) s.heap.objs.size (He.ga K x) (.ref (He.codeOf K (x, none))))).guards = some [] → sp vs H Q E →
      ∃ t, PSs (cxOf CX0 P w K mg base N qual (defScope st) (He.ga K x) (.ref (He.codeOf K (x, none))) A outer s H E).nox (defBody st) t ∧ t { nx := fun _ H' => Q .non H', rt := Q } (start N vs) H) : FnG P w K mg base (k + 1) (He.ga K x) ps sp := by
  obtain ⟨fd, F⟩ := d
  have hbn := FunD.bindsN F hb
  have kp := F.kp
  obtain ⟨oc, od, dV, kV, doc, pm, an, cdv, ct, osl, rfl, lk, hcd, _, _⟩ := F.ex
  obtain ⟨c, rfl⟩ := He.codeIn_ref hcd
  have e : He.codeOf K (x, none) = c := He.codeOf_eq (p := (x, none)) lk rfl
  subst e
  refine ⟨_, fun A outer s H args us vs Q E hr hg e0 hbt r hsp => ?_, hbn, kp, len⟩
  refine run_ofS (CX := CX0) lk hcd S hr e0 hbt r (len _ _ _ _ hsp) fun hr' => ?_
  obtain ⟨t, h, q⟩ := hbody A outer s H vs Q E hr' hg hsp
  exact ⟨t, h.nox, q⟩
end
section
variable {X : Cx} {k : Nat} {f : Addr} {ps : List Str} {sp : Sp} {x : Str} {p pos : Pos} {e : Expr} {es : List Expr} {t : TA}
/-- f(..), where no repr is under way -/
theorem clG (F : FnG X.prog X.w X.K X.mg X.base k f ps sp) (hr : Room k X.A) (hgu : X.A.guards = some []) (hm : X.mg x = some (.ref f)) (ha : PA X (e :: es) t) (hg : Gl X x := by rfl) (hdb : (x == ("__debug__" : Str)) = false := by decide)
    (he : starEach (e :: es) X.env = (false, eval e X.env) :: starEach es X.env := by rfl) (hpl : (backTo pos (starEach es X.env)).any (·.1) = false := by rfl) : PE X (.Call (.Name x p) (e :: es) [] pos) (tCall sp [] E0 t) := by
  obtain ⟨fd, run, hb, hk, len⟩ := F
  refine ⟨fun pins s σ H Q I h => ?_⟩
  refine wpAny_Call_Name_kw (ld_glob I hg hm ?_ hdb)
  refine PySem.W.callWith_K (h₀ := X.base) I.ok.mod.kin hk (thn (ha.run pos pins s σ H _ I h) fun us s1 ⟨vs, H1, I1, r, q⟩ => ⟨I1.kIn, ?_⟩) he hpl
  have q : sp vs H1 Q E0 := by
    have q' : sp (vs ++ []) H1 Q E0 := q
    rw [List.append_nil] at q'
    exact q'
  have hl : (us ++ []).length = ps.length := by rw [List.append_nil, ← r.length]; exact len _ _ _ _ q
  have hbt := hb s1 us I1.kIn hl
  rw [List.append_nil] at hbt
  refine wpAny_call (codeAny_mono (run X.A X.stack s1 H1 ⟨us, []⟩ us vs Q E0 hr hgu I1.env0 hbt r q) fun r s' hq => ?_)
  cases r with
  | error e => exact (show False from hq).elim
  | ok fl =>
    cases fl with
    | ret u => exact I1.after hq
    | next => exact False.elim hq
    | brk => exact False.elim hq
    | cont => exact False.elim hq
end
end Spt

set_option Elab.async false
set_option linter.all false
set_option maxRecDepth 100000
set_option maxHeartbeats 8000000
/-! the law: is_answered -/
namespace Spt
open PySem PySem.Spec PyProof.Rows L2 LamX
def pA (K : PySem.W.Frag) : Addr := (He.cT K ("_law_is_answered", none)).2
def pL (K : PySem.W.Frag) : Addr := (He.cT K ("law", none)).2
def qA : Str := ("_law_is_answered" : Str) ++ ".<locals>." ++ "<lambda>"
def qL : Str := ("law" : Str) ++ ".<locals>." ++ "<lambda>"
def tabsT (K : PySem.W.Frag) : List (Addr × Str) := [(pA K, qA), (pL K, qL)]
theorem tabsT_A {K : PySem.W.Frag} (hne : pA K ≠ pL K) : ∀ p ∈ tabsT K, p.1 = pA K → p.2 = qA := fun p hp e => by
  rcases List.mem_cons.mp hp with rfl | hp
  · rfl
  · rw [List.mem_singleton.mp hp] at e
    exact absurd e.symm hne
theorem tabsT_L {K : PySem.W.Frag} (hne : pA K ≠ pL K) : ∀ p ∈ tabsT K, p.1 = pL K → p.2 = qL := fun p hp e => by
  rcases List.mem_cons.mp hp with rfl | hp
  · exact absurd e hne
  · rw [List.mem_singleton.mp hp]
section
variable {H H' : Hp}
theorem extN_tup (e : ExtN H H') {a : Addr} {xs : List V} (h : H a = some (.tup xs)) : H' a = some (.tup xs) := e _ _ h fun _ z => nomatch z
theorem extN_links (e : ExtN H H') {lt : Addr} {es : List (Nat × Nat)} (h : LinksO H lt es) : LinksO H' lt es := by
  obtain ⟨as, h1, h2⟩ := h
  exact ⟨as, extN_tup e h1, Paired.imp (F := fun (a : Addr) (x : Nat × Nat) => H a = some (.tup [vn x.1, vn x.2])) (fun _ _ q => extN_tup e q) h2⟩
theorem extN_parts (e : ExtN H H') {p lt : Addr} {n root : Nat} {es : List (Nat × Nat)} (h : PartsO H p n root lt es) : PartsO H' p n root lt es := by
  obtain ⟨h1, h2, h3⟩ := h
  exact ⟨extN_tup e h1, extN_links e h2, h3⟩
theorem extN_net (e : ExtN H H') {K : PySem.W.Frag} {g lt : Addr} {n root : Nat} (h : NetO K H g n root lt) : NetO K H' g n root lt := by
  obtain ⟨dx, fs, h1, h2⟩ := h
  exact ⟨dx, fs, e _ _ h1 (fun _ z => nomatch z), h2⟩
theorem extN_widths (e : ExtN H H') {wt : Addr} {ws : List Nat} {es : List (Nat × Nat)} (h : WidthsO H wt ws es) : WidthsO H' wt ws es := ⟨extN_tup e h.1, h.2⟩
end
theorem len_le_sum : ∀ {l : List Nat}, (∀ x ∈ l, 1 ≤ x) → l.length ≤ l.sum
  | [], _ => Nat.le_refl _
  | x :: l, h => by
    have := len_le_sum fun y hy => h y (List.mem_cons_of_mem _ hy)
    have := h x List.mem_cons_self
    rw [List.length_cons, List.sum_cons]
    omega
theorem GoodLoads.few {n root : Nat} {es : List (Nat × Nat)} {ws : List Nat} {c : Nat} {rows : List (Nat × List Nat)} (g : GoodLoads n root es ws c rows) : rows.length ≤ c := by
  have := len_le_sum (l := rows.map (·.1)) fun x hx => by
    obtain ⟨r, hr, rfl⟩ := List.mem_map.mp hx
    exact (g.tree r hr).2.1
  rw [g.sum, List.length_map] at this
  exact this
section
variable {P : Program} {w : World} {K : PySem.W.Frag} {mg : Str → Option Value} {base : Heap}
theorem scLIsAns : FnScope ["_law_parts", "_law_net", "_law_widths", "_law_many", "_law_told", "_law_side", "_law_mask"] ["_law_parts", "_law_net", "_law_widths", "_law_many"] (defScope sLIsAnswered) := ⟨rfl, rfl, rfl, by decide +kernel, rfl, by decide +kernel, by decide +kernel⟩
def spLIsAns (K : PySem.W.Frag) : Sp := fun vs H Q _ => ∃ (p g wt lt : Addr) (n root c : Nat) (es : List (Nat × Nat)) (ws : List Nat), vs = [.ref p, .ref g, .ref wt, vn c] ∧ PartsO H p n root lt es ∧ NetO K H g n root lt ∧ WidthsO H wt ws es ∧ c ≤ 40 ∧ Tabs (tabsT K) H ∧ ∀ H', ExtN H H' → Tabs (tabsT K) H' → Q (.bl true) H'
theorem okLIsAns (T : Txt K mg) (TB : TabB base mg (He.codeOf K ("_law_is_answered", none)) (pA K)) (hne : pA K ≠ pL K) : FnG P w K mg base 9 (He.ga K "_law_is_answered") ["_law_parts", "_law_net", "_law_widths", "_law_many"] (spLIsAns K) := by
  refine FnG.ofC T.d_LIsAnswered scLIsAns (fun _ _ _ _ _ _ us hl => match us, hl with | [_, _, _, _], _ => rfl) (fun vs H Q E h => ?_) (fun A outer s H vs Q E hr hg h => ?_)
  · obtain ⟨p, g, wt, lt, n, root, c, es, ws, rfl, _⟩ := h
    rfl
  · obtain ⟨p, g, wt, lt, n, root, c, es, ws, rfl, hpa, hnet, hw, c40, hT, k⟩ := h
    refine ⟨_, Evl.pss_cut (ps_set (i := 4) scLIsAns.nd rfl (.inl rfl) (pe_bar (Ts := tabsT K) (c := He.codeOf K ("_law_is_answered", none)) (Pt := pA K) T (fun A outer s H E f c' hr' => lam_loads T hr' (a3 (pv 1) (pv 2) (pv 3))) TB rfl List.mem_cons_self (tabsT_A hne) (hr.mono (by decide)) (lamS_by (sc := defScope sLIsAnswered) (by decide +kernel)) rfl (fun _ _ _ _ _ => rfl)))
      (pss_cons (ps_for PassesOwn.never rfl (pi_list (cl ((okLSides T).mono (by decide)) hr T.g__law_sides (a2 (pe_ix (ixT K) (pv 0) pe_int (fun _ _ => rfl)) (pe_ix (ixT K) (pv 0) pe_int (fun _ _ => rfl))))) (pg_tup rfl (pgs_cons (pg_name (i := 5) scLIsAns.nd rfl (.inl rfl)) (pgs_cons (pg_name (i := 6) scLIsAns.nd rfl (.inl rfl)) pgs_nil)))
        (pss_one (ps_if (pt_cmpR op_lt (cl ((okLWidthInto T).mono (by decide)) hr T.g__law_width_into (a3 (pv 0) (pv 2) (pv 6))) (pv 3) (nomark _))
          (pss_one (ps_ret (pe_and (pe_cmpR (op_eqPair hr.units) (pv 4) (pe_tup (a2 pe_str (pv 5))) (nomark _)) (pe_one (pe_cmpR op_eq (cb (call_reprN hg hr.units) T.f_repr (a1 (pe_ix (ixT K) (pv 4) pe_int (fun _ _ => rfl)))) (cb (call_reprN hg hr.units) T.f_repr (a1 (pv 5))) (nomark _)))))) pss_nil)))
      (pss_cons (ps_if (PW.pt (pw_or (pt_cmpR op_ne (pe_ix (ixT K) (pv 4) pe_int (fun _ _ => rfl)) pe_str (nomark _)) (pw_or1 (pt_not (pt_val (cl ((okLAreLoads T).mono (by decide)) hr T.g__law_are_loads (pa_cons (pv 0) (a3 (pv 2) (pv 3) (pe_ix (ixT K) (pv 4) pe_int (fun _ _ => rfl)))))))))) (pss_one (ps_ret pe_bl)) pss_nil)
      (pss_one (ps_ret (cl ((okLIs T).mono (by decide)) hr T.g__law_is (a2 (cl (okAreLoads T) hr T.g_are_loads (pa_cons (pv 1) (a3 (pv 2) (pv 3) (pe_ix (ixT K) (pv 4) pe_int (fun _ _ => rfl))))) pe_bl)))))), ?_⟩
    obtain ⟨hpt, hlt, hes, n2, n10, hroot, hz⟩ := id hpa
    refine ⟨fun σ H' => ∃ tp, σ = [some (.ref p), some (.ref g), some (.ref wt), some (vn c), some (.ref tp), none, none] ∧ ExtN H H' ∧ Tabs (tabsT K) H' ∧ (((∀ l ∈ sides n root, c ≤ widthInto es ws l) ∧ ∃ t rows, H' tp = some (.tup [.str "told", .ref t]) ∧ LoadsO H' t rows ∧ GoodLoads n root es ws c rows) ∨
      ∃ pre l post a, sides n root = pre ++ l :: post ∧ (∀ l' ∈ pre, c ≤ widthInto es ws l') ∧ widthInto es ws l < c ∧ H' tp = some (.tup [.str "barred", .ref a]) ∧ H' a = some (.tup (vns l))), ?_, ?_⟩
    · -- told
      refine ⟨hT, fun H1 eN T1 p0 np0 => ?_⟩
      have s2 : Same H1 (upd H1 p0 (.tup [.str "other", .non])) := same_new np0
      have e2 : ExtN H (upd H1 p0 (.tup [.str "other", .non])) := eN.trans (ExtN.of s2)
      have T2 := T1.ext s2
      revert e2 T2
      generalize upd H1 p0 (.tup [.str "other", .non]) = H2
      intro e2 T2
      refine ⟨_, rfl, _, rfl, _, rfl, g, lt, wt, n, root, c, es, ws, rfl, extN_net e2 hnet, extN_links e2 hlt, extN_widths e2 hw, hz, n2, n10, hroot, hes, c40, fun hall H3 t rows s3 hL hG => ?_, fun pre l post hs hpre hl H3 d a s3 hd ha => ?_⟩
      · refine ⟨by show 2 ≤ sizeLine; rw [sizeLine_eq]; decide, fun tp ntp => ⟨_, rfl, ?_⟩⟩
        have s4 : Same H3 (upd H3 tp (.tup [.str "told", .ref t])) := same_new ntp
        exact ⟨tp, rfl, e2.trans (ExtN.of fun b o q => s4 _ _ (s3 _ _ q)), T2.ext fun b o q => s4 _ _ (s3 _ _ q), .inl ⟨hall, t, rows, upd_same, hL.same s4, hG⟩⟩
      · refine ⟨rfl, d, .ref a, rfl, hd, fun tp ntp => ?_⟩
        have s4 : Same H3 (upd H3 tp (.tup [.str "barred", .ref a])) := same_new ntp
        exact ⟨tp, rfl, e2.trans (ExtN.of fun b o q => s4 _ _ (s3 _ _ q)), T2.ext fun b o q => s4 _ _ (s3 _ _ q), .inr ⟨pre, l, post, a, hs, hpre, hl, upd_same, s4 _ _ ha⟩⟩
    · -- the rest
      rintro σ H1 ⟨tp, rfl, e1, T1, hcase⟩
      have hpa1 := extN_parts e1 hpa
      have hw1 := extN_widths e1 hw
      have hpt1 := extN_tup e1 hpt
      refine ⟨_, rfl, p, _, 0, _, rfl, rfl, SqT.of hpt1, rfl, _, rfl, p, _, 1, _, rfl, rfl, SqT.of hpt1, rfl, n, root, rfl, n2, n10, fun H2 D ps s2 nD hD hps => ?_⟩
      have hslots : ∀ l ∈ sides n root, l ∈ lots n := fun l hl => (List.mem_filter.mp hl).1
      obtain ⟨qs, rfl, q2, q3⟩ := Paired.zipd hps
      refine ⟨D, rfl, ⟨_, SqL.of hD⟩, for_list (K := K) (a := D) (xs := (qs.map (·.1)).map V.ref) (fun i σ H' => Same H2 H' ∧ (∀ j l, j < i → (sides n root)[j]? = some l → c ≤ widthInto es ws l) ∧ ∃ v5 v6 : Option V, σ = [some (.ref p), some (.ref g), some (.ref wt), some (vn c), some (.ref tp), v5, v6]) ⟨Same.refl _, fun j l h _ => absurd h (Nat.not_lt_zero _), none, none, rfl⟩ (fun i σ H' _ h => SqL.of (h.1 _ _ hD)) ?_ ?_⟩
      · rintro i x σ H3 hi ⟨s3, hprev, v5, v6, rfl⟩
        rw [List.getElem?_map, List.getElem?_map] at hi
        cases hqi : qs[i]? with
        | none => rw [hqi] at hi; cases hi
        | some q =>
          rw [hqi] at hi
          cases hi
          have hsi : (sides n root)[i]? = some q.2 := by rw [q2, List.getElem?_map, hqi]; rfl
          have hmem := List.mem_of_getElem? hsi
          obtain ⟨la, a1, a2⟩ := q3 q (List.mem_of_getElem? hqi)
          have a1' := s3 _ _ a1
          have s13 : Same H1 H3 := s2.trans s3
          have e3 : ExtN H H3 := e1.trans (ExtN.of s13)
          refine ⟨q.1, _, rfl, SqT.of a1', rfl, _, _, rfl, _, _, rfl, rfl, ?_⟩
          refine ⟨_, rfl, _, rfl, _, rfl, p, lt, wt, n, root, es, ws, q.2, rfl, extN_parts e3 hpa, extN_widths e3 hw, hslots _ hmem, fun H4 s4 => ?_⟩
          refine ⟨_, rfl, _, _, rfl, rfl, ?_⟩
          have s14 := s13.trans s4
          by_cases hlt' : widthInto es ws q.2 < c
          · refine ⟨true, blT (by omega), ?_⟩
            refine iteT ?_
            rcases hcase with ⟨hall, _⟩ | ⟨pre, l, post, a, hs, hpre, hl, htp, hal⟩
            · have := hall _ hmem
              omega
            · -- it is l
              have hl' : q.2 = l := by
                have hpl : (sides n root)[pre.length]? = some l := by rw [hs, List.getElem?_append_right (Nat.le_refl _), Nat.sub_self]; rfl
                rcases Nat.lt_trichotomy i pre.length with h | h | h
                · have h5 : pre[i]? = some q.2 := by rw [← hsi, hs, List.getElem?_append_left h]
                  have := hpre _ (List.mem_of_getElem? h5)
                  omega
                · rw [← h] at hpl
                  exact Option.some.inj (hsi.symm.trans hpl)
                · have := hprev _ _ h hpl
                  omega
              have htp4 := s14 _ _ htp
              have hal4 := s14 _ _ hal
              have hla4 := s4 _ _ (s3 _ _ a2)
              rw [hl'] at hla4
              have hll : l ∈ lots n := hslots _ (by rw [← hl']; exact hmem)
              have hlb : ∀ x ∈ l, x < 1024 := fun x hx => Nat.lt_of_lt_of_le (lots_lt n2 n10 hll x hx) (by omega)
              have hl10 : l.length ≤ 1000 := Nat.le_trans (lots_size n2 n10 hll) (by decide)
              refine ⟨_, rfl, _, rfl, by show 2 ≤ sizeLine; rw [sizeLine_eq]; decide, fun tq ntq => ?_⟩
              have s5 : Same H4 (upd H4 tq (.tup [.str "barred", .ref la])) := same_new ntq
              refine ⟨tp, tq, a, la, "barred", l, rfl, rfl, s5 _ _ htp4, upd_same, SqT.of (s5 _ _ hal4), SqT.of (s5 _ _ hla4), true, rfl, ?_⟩
              refine iteT ?_
              refine ⟨_, rfl, tp, _, 1, _, rfl, rfl, SqT.of (s5 _ _ htp4), rfl, a, l, rfl, SqT.of (s5 _ _ hal4), hlb, hl10, _, rfl, la, l, rfl, SqT.of (s5 _ _ hla4), hlb, hl10, rfl, ?_⟩
              rw [decide_eq_true rfl]
              exact k _ (e1.trans (ExtN.of fun b o z => s5 _ _ (s14 _ _ z))) (T1.ext fun b o z => s5 _ _ (s14 _ _ z))
          · refine ⟨false, blF (by omega), ?_⟩
            refine iteF ⟨s3.trans s4, fun j l hj hjl => ?_, _, _, rfl⟩
            rcases Nat.lt_or_eq_of_le (Nat.le_of_lt_succ hj) with h | h
            · exact hprev j l h hjl
            · rw [h, hsi] at hjl
              cases hjl
              omega
      · rintro σ H3 ⟨s3, hprev, v5, v6, rfl⟩
        have s13 : Same H1 H3 := s2.trans s3
        have e3 : ExtN H H3 := e1.trans (ExtN.of s13)
        have hlen : ((qs.map (·.1)).map V.ref).length = (sides n root).length := by rw [q2, List.length_map, List.length_map, List.length_map]
        rw [hlen] at hprev
        rcases hcase with ⟨hall, t, rows, htp, hL, hG⟩ | ⟨pre, l, post, a, hs, hpre, hl, htp, hal⟩
        · have htp3 := s13 _ _ htp
          have hL3 := hL.same s13
          have few := hG.few
          refine ⟨_, rfl, tp, _, 0, _, rfl, rfl, SqT.of htp3, rfl, rfl, ?_⟩
          refine ⟨_, rfl, ?_⟩
          refine iteF ?_
          refine ⟨_, rfl, _, rfl, _, rfl, _, rfl, tp, _, 1, _, rfl, rfl, SqT.of htp3, rfl, p, wt, t, lt, n, root, c, es, ws, rows, rfl, extN_parts e3 hpa, extN_widths e3 hw, c40, hL3, hG, by omega, fun H4 s4 => ?_⟩
          refine ⟨true, rfl, ?_⟩
          refine iteF ?_
          have e4 : ExtN H H4 := e3.trans (ExtN.of s4)
          refine ⟨_, rfl, _, rfl, _, rfl, _, rfl, tp, _, 1, _, rfl, rfl, SqT.of (s4 _ _ htp3), rfl, g, lt, wt, t, n, root, c, es, ws, rows, rfl, extN_net e4 hnet, extN_links e4 hlt, extN_widths e4 hw, hz, hroot, n10, hes, c40, hL3.same s4, hG, by omega, fun H5 s5 => ?_⟩
          exact ⟨rfl, k H5 (e4.trans (ExtN.of s5)) (T1.ext fun b o z => s5 _ _ (s4 _ _ (s13 _ _ z)))⟩
        · have hpl : (sides n root)[pre.length]? = some l := by rw [hs, List.getElem?_append_right (Nat.le_refl _), Nat.sub_self]; rfl
          have := hprev pre.length l (List.getElem?_eq_some_iff.mp hpl).1 hpl
          omega
end
end Spt

set_option Elab.async false
set_option linter.all false
set_option maxRecDepth 100000
set_option maxHeartbeats 1500000
/-! the law itself -/
namespace Spt
open PySem PySem.Spec PyProof.Rows L2 LamX
section
variable {H H' : Hp}
theorem tabS_but {h : Addr} {xs : List V} {Pt : Addr} {q : Str} (e : EBut h H H') (hh : H h = some (.lst xs)) (t : TabS H Pt q) : TabS H' Pt q := by
  obtain ⟨ps, h1, h2, h3⟩ := t
  refine ⟨ps, e _ _ (L2.ne_of h1 hh (fun z => nomatch z)) h1, h2, fun pos cv hc => ?_⟩
  obtain ⟨c, e1, e2⟩ := h3 pos cv hc
  exact ⟨c, e1, e _ _ (L2.ne_of e2 hh (fun z => by unfold CodeO at z; cases z)) e2⟩
theorem tabs_but {h ca : Addr} {cs : List Int} {Ts : List (Addr × Str)} (e : EBut h H H') (hh : HandO H h ca cs) (t : Tabs Ts H) : Tabs Ts H' := by
  obtain ⟨at', left, dr, h1, _⟩ := hh
  exact fun p hp => tabS_but e h1 (t p hp)
theorem handO_ext {h ca : Addr} {cs : List Int} (e : ExtN H H') (hh : HandO H h ca cs) : HandO H' h ca cs := by
  obtain ⟨at', left, dr, h1, h2, h3⟩ := hh
  exact ⟨at', left, dr, e _ _ h1 (fun _ z => nomatch z), e _ _ h2 (fun _ z => nomatch z), h3⟩
/-- a net, its widths, as they stand between the turns -/
def PairO (K : PySem.W.Frag) (H : Hp) (g wt : Addr) : Prop := ∃ (lt : Addr) (n root : Nat) (es : List (Nat × Nat)) (ws : List Nat), NetO K H g n root lt ∧ LinksO H lt es ∧ WidthsO H wt ws es ∧ es.length ≤ 60 ∧ 2 ≤ n ∧ n ≤ 10 ∧ root < n
end
theorem netO_but {H H' : Hp} {K : PySem.W.Frag} {h ca g lt : Addr} {cs : List Int} {n root : Nat} (e : EBut h H H') (hh : HandO H h ca cs) (q : NetO K H g n root lt) : NetO K H' g n root lt := by
  obtain ⟨at', left, dr, h1, _⟩ := hh
  obtain ⟨dx, fs, g1, g2⟩ := q
  exact ⟨dx, fs, e _ _ (L2.ne_of g1 h1 (fun z => nomatch z)) g1, g2⟩
theorem parts_but {H H' : Hp} {h ca p lt : Addr} {cs : List Int} {n root : Nat} {es : List (Nat × Nat)} (e : EBut h H H') (hh : HandO H h ca cs) (q : PartsO H p n root lt es) : PartsO H' p n root lt es := by
  obtain ⟨h1, ⟨as, h2, h3⟩, h4⟩ := q
  exact ⟨hh.tupKeep e _ _ h1, ⟨as, hh.tupKeep e _ _ h2, Paired.imp (F := fun (a : Addr) (x : Nat × Nat) => H a = some (.tup [vn x.1, vn x.2])) (fun _ _ z => hh.tupKeep e _ _ z) h3⟩, h4⟩
theorem widths_but {H H' : Hp} {h ca wt : Addr} {cs : List Int} {ws : List Nat} {es : List (Nat × Nat)} (e : EBut h H H') (hh : HandO H h ca cs) (q : WidthsO H wt ws es) : WidthsO H' wt ws es := ⟨hh.tupKeep e _ _ q.1, q.2⟩
theorem sum_bound {b : Nat} : ∀ {l : List Nat}, (∀ x ∈ l, x ≤ b) → l.sum ≤ b * l.length
  | [], _ => Nat.zero_le _
  | x :: l, h => by
    have := sum_bound fun y hy => h y (List.mem_cons_of_mem _ hy)
    have := h x List.mem_cons_self
    rw [List.sum_cons, List.length_cons, Nat.mul_succ]
    omega
theorem widthInto_le {es : List (Nat × Nat)} {ws l : List Nat} {b : Nat} (h : ∀ x ∈ ws, x ≤ b) : widthInto es ws l ≤ b * es.length := by
  unfold widthInto
  refine Nat.le_trans (sum_bound (b := b) fun x hx => ?_) ?_
  · obtain ⟨i, _, rfl⟩ := List.mem_map.mp hx
    rw [List.getD_eq_getElem?_getD]
    cases q : ws[i]? with
    | none => exact Nat.zero_le _
    | some y => exact h y (List.mem_of_getElem? q)
  · rw [List.length_map]
    refine Nat.mul_le_mul_left _ ?_
    unfold enterOf
    refine Nat.le_trans (List.length_filter_le _ _) ?_
    rw [List.length_range]
    exact Nat.le_refl _
theorem IsMin.uniq {a b : Nat} {l : List Nat} (h1 : IsMin a l) (h2 : IsMin b l) : a = b := Nat.le_antisymm (h1.2 _ h2.1) (h2.2 _ h1.1)
section
variable {P : Program} {w : World} {K : PySem.W.Frag} {mg : Str → Option Value} {base : Heap}
theorem scLaw : FnScope ["_law_script", "_law_hand_here", "_law_turn", "_law_parts", "_law_net", "_law_widths", "_law_least", "_law_row", "_law_told", "_law_ahead", "_law_most", "_law_many"] ["_law_script"] (defScope sLaw) := ⟨rfl, rfl, rfl, by decide +kernel, rfl, by decide +kernel, by decide +kernel⟩
def spLaw (K : PySem.W.Frag) : Sp := fun vs H Q _ => ∃ (a : Addr) (cs : List Int), vs = [.ref a] ∧ SqL K H a (cs.map V.int) ∧ cs.length ≤ 63 ∧ Tabs (tabsT K) H ∧ ∀ H', Q (.bl true) H'
theorem okLaw (T : Txt K mg) (TA : TabB base mg (He.codeOf K ("_law_is_answered", none)) (pA K)) (TL : TabB base mg (He.codeOf K ("law", none)) (pL K)) (hne : pA K ≠ pL K) : FnG P w K mg base 10 (He.ga K "law") ["_law_script"] (spLaw K) := by
  refine FnG.ofC T.d_Law scLaw (fun _ _ _ _ _ _ us hl => match us, hl with | [_], _ => rfl) (fun vs H Q E h => ?_) (fun A outer s H vs Q E hr hg h => ?_)
  · obtain ⟨a, cs, rfl, _⟩ := h
    rfl
  · obtain ⟨a, cs, rfl, ha, hcl, hT, k⟩ := h
    have dr := (okLDraw (P := P) (w := w) (base := base) T).mono (show 2 ≤ 9 by decide)
    refine ⟨_, pss_cons (ps_set (i := 1) scLaw.nd rfl (.inl rfl) (cl ((okLHand T).mono (by decide)) hr T.g__law_hand (a1 (pv 0))))
      (pss_cons (ps_for PassesOwn.never rfl (pi_range1 rfl T.f_range (a1 pe_int)) (pg_name (i := 2) scLaw.nd rfl (.inl rfl))
        (pss_cons (ps_set (i := 3) scLaw.nd rfl (.inr rfl) (cl ((okLPartsOf T).mono (by decide)) hr T.g__law_parts_of (a1 (pv 1))))
        (pss_cons (ps_asg (pe_tup (a2 (mkc (okNetInit T) T.k_Net (hr.mono (by decide)) T.g_Net (a3 (pe_ix (ixT K) (pv 3) pe_int (fun _ _ => rfl)) (pe_ix (ixT K) (pv 3) pe_int (fun _ _ => rfl)) (pe_ix (ixT K) (pv 3) pe_int (fun _ _ => rfl)))) (cl ((okLSomeWidths T).mono (by decide)) hr T.g__law_some_widths (a2 (pv 1) (pv 3))))) (pg_tup rfl (pgs_cons (pg_name (i := 4) scLaw.nd rfl (.inr rfl)) (pgs_cons (pg_name (i := 5) scLaw.nd rfl (.inr rfl)) pgs_nil))))
        (pss_cons (ps_set (i := 6) scLaw.nd rfl (.inl rfl) (cb (cr_min rfl) T.f_min (a1 (lcn 7 (pi_list (cl ((okLSides T).mono (by decide)) hr T.g__law_sides (a2 (pe_ix (ixT K) (pv 3) pe_int (fun _ _ => rfl)) (pe_ix (ixT K) (pv 3) pe_int (fun _ _ => rfl))))) (fun _ _ _ _ _ => cl ((okLWidthInto T).mono (by decide)) hr T.g__law_width_into (a3 (pv 3) (pv 5) (pe_ix (ixT K) (pv 7) pe_int (fun _ _ => rfl)))) scLaw))))
        (pss_cons (ps_par (i := 8) (j := 9) rfl scLaw.nd rfl rfl (by decide) rfl rfl (a2 (cl ((okRate T).mono (by decide)) hr T.g_rate (a2 (pv 4) (pv 5))) (cb (call_reprN hg hr.units) T.f_repr (a1 (pv 5)))) rfl)
        (pss_cons (ps_if (PW.pt (pw_or (pt_not (pt_val (cl ((okLIsInt T).mono (by decide)) hr T.g__law_is_int (a3 (pv 8) pe_int pe_int)))) (pw_or1 (pt_cmpR op_ne (pv 8) (pv 6) (nomark _))))) (pss_one (ps_ret pe_bl)) pss_nil)
        (Evl.pss_cut (ps_set (i := 10) scLaw.nd rfl (.inl rfl) (pe_ix ix_list (pe_lst (a2 pe_int pe_int)) (ct call_int1 T.f_int (a1 (pe_or (pe_cmpR op_lt (pe_ix (ixT K) (pv 3) pe_int (fun _ _ => rfl)) pe_int (nomark _)) (pe_one (pe_and (pe_cmpR op_lt (pe_ix (ixT K) (pv 3) pe_int (fun _ _ => rfl)) pe_int (nomark _)) (pe_one (pe_cmpR op_eq (cl dr hr T.g__law_draw (a2 (pv 1) pe_int)) pe_int (nomark _)))))))) (fun _ _ => rfl)))
        (pss_cons (ps_for PassesOwn.never rfl (pi_list (pe_lst (a3 (cb (call_min2 rfl) T.f_min (a2 (pv 10) (pv 6))) (cb (call_min2 rfl) T.f_min (a2 (pv 10) (pe_op op_add (pv 6) pe_int))) (cl dr hr T.g__law_draw (a2 (pv 1) (pe_op op_add (pv 10) pe_int)))))) (pg_name (i := 11) scLaw.nd rfl (.inl rfl))
          (pss_one (ps_if (pt_not (pt_val (clG (okLIsAns T TA hne) hr hg T.g__law_is_answered (pa_cons (pv 3) (a3 (pv 4) (pv 5) (pv 11)))))) (pss_one (ps_ret pe_bl)) pss_nil)))
        (pss_one (ps_if (PW.pt (pw_or (pt_cmpR (op_nePair hr.units) (pe_bar (Ts := tabsT K) (c := He.codeOf K ("law", none)) (Pt := pL K) T (fun A outer s H E f c' hr' => lam_loads T hr' (a3 (pv 4) (pv 5) pe_int)) TL rfl (List.mem_cons_of_mem _ List.mem_cons_self) (tabsT_L hne) (hr.mono (by decide)) (lamS_by (sc := defScope sLaw) (by decide +kernel)) rfl (fun _ _ _ _ _ => rfl)) (pe_tup (a2 pe_str (pe_tup pa_nil))) (nomark _)) (pw_or1 (pt_cmpR op_ne (cb (call_reprN hg hr.units) T.f_repr (a1 (pv 5))) (pv 9) (nomark _))))) (pss_one (ps_ret pe_bl)) pss_nil))))))))))
      (pss_one (ps_ret (pe_cmpR op_eq (cl ((okRate T).mono (by decide)) hr T.g_rate (a2 (pv 4) (pe_op op_repA (pe_tup (a1 pe_int)) (cb call_len T.f_len (a1 (pv 5)))))) pe_int (nomark _))))), ?_⟩
    refine ⟨_, rfl, a, cs, rfl, ha, hcl, fun H1 h ca s1 nh hh1 => ?_⟩
    have T1 := hT.ext s1
    refine ⟨(2 : Int), rfl, by decide, by decide, ?_⟩
    refine for_range (lo := 0) (n := 2) (fun i σ H' => HandO H' h ca cs ∧ Tabs (tabsT K) H' ∧ ∃ v2 v3 v4 v5 v6 v7 v8 v9 v10 v11 : Option V, σ = [some (.ref a), some (.ref h), v2, v3, v4, v5, v6, v7, v8, v9, v10, v11] ∧ (i = 0 ∨ ∃ g wt, v4 = some (.ref g) ∧ v5 = some (.ref wt) ∧ PairO K H' g wt))
      ⟨hh1, T1, none, none, none, none, none, none, none, none, none, none, rfl, .inl rfl⟩ ?_ ?_
    · rintro i σ H2 hi ⟨hh2, T2, v2, v3, v4, v5, v6, v7, v8, v9, v10, v11, rfl, _⟩
      -- parts
      refine ⟨_, rfl, h, ca, cs, rfl, hh2, fun H3 p n root lt es eb3 hpa3 hh3 => ?_⟩
      have T3 := tabs_but eb3 hh2 T2
      obtain ⟨hpt3, hlt3, hes, n2, n10, hroot, hz⟩ := id hpa3
      -- the net
      refine ⟨_, rfl, p, _, 0, _, rfl, rfl, SqT.of hpt3, rfl, _, rfl, p, _, 1, _, rfl, rfl, SqT.of hpt3, rfl, _, rfl, p, _, 2, _, rfl, rfl, SqT.of hpt3, rfl, fun g dx hgn hdx hgd => ?_⟩
      have sg : Same H3 (upd (upd H3 dx (.own g)) g (.ins (He.ga K "Net") dx [])) := fun b o q => by
        rw [upd_ne (ne_of_none q hgn), upd_ne (ne_of_none q hdx)]; exact q
      refine ⟨g, dx, lt, n, root, es, rfl, upd_same, n2, n10, hroot, hlt3.same sg, hes, hz, fun H4 eb4 hnet4 => ⟨rfl, ?_⟩⟩
      have s4 : Same H3 H4 := fun b o q => eb4 b o (ne_of_none q hgn) (sg b o q)
      have hh4 := hh3.same s4
      have T4 := T3.ext s4
      have hpa4 : PartsO H4 p n root lt es := extN_parts (ExtN.of s4) hpa3
      -- widths
      refine ⟨_, rfl, _, rfl, h, ca, cs, p, lt, n, root, es, rfl, hh4, hpa4, fun H5 wt ws eb5 hh5 hw5 => ?_⟩
      have T5 := tabs_but eb5 hh4 T4
      have hpa5 := parts_but eb5 hh4 hpa4
      have hnet5 := netO_but eb5 hh4 hnet4
      refine ⟨by show 2 ≤ sizeLine; rw [sizeLine_eq]; decide, fun tp ntp => ?_⟩
      have s6 : Same H5 (upd H5 tp (.tup [.ref g, .ref wt])) := same_new ntp
      refine ⟨tp, _, rfl, SqT.of upd_same, rfl, _, _, rfl, _, _, rfl, rfl, ?_⟩
      have hh6 := hh5.same s6
      have T6 := T5.ext s6
      have hpa6 := extN_parts (ExtN.of s6) hpa5
      have hnet6 := extN_net (ExtN.of s6) hnet5
      have hw6 := extN_widths (ExtN.of s6) hw5
      revert hh6 T6 hpa6 hnet6 hw6
      generalize upd H5 tp (.tup [.ref g, .ref wt]) = H6
      intro hh6 T6 hpa6 hnet6 hw6
      -- least
      refine ⟨_, rfl, p, _, 0, _, rfl, rfl, SqT.of hpa6.1, rfl, _, rfl, p, _, 1, _, rfl, rfl, SqT.of hpa6.1, rfl, n, root, rfl, n2, n10, fun H7 D ps s7 nD hD hps => ?_⟩
      obtain ⟨qs, rfl, q2, q3⟩ := Paired.zipd hps
      have hslots : ∀ l ∈ sides n root, l ∈ lots n := fun l hl => (List.mem_filter.mp hl).1
      refine ⟨D, rfl, ⟨_, SqL.of hD⟩, fun D2 hD2 => ?_⟩
      have hD' : SqL K H7 D (qs.map fun q => V.ref q.1) := by
        have := SqL.of (K := K) hD
        rw [List.map_map] at this
        exact this
      refine comp_list (K := K) qs (fun q => V.ref q.1) (fun _ => true) (fun _ q y => y = vn (widthInto es ws q.2)) hD2 hD' ?_ (fun _ _ _ _ _ h => h) (fun _ => rfl) (fun x _ H8 s8 Qb q => q H8 (Same.refl _)) (fun q hm _ H8 s8 _ Qv qq => ?_) (fun H8 ys s8 hD8 r => ?_)
      · have := lots_len n2 n10
        have l2 : (sides n root).length ≤ (lots n).length := List.length_filter_le _ _
        rw [q2, List.length_map] at l2
        rw [sizeLine_eq]
        omega
      · obtain ⟨la, a1, a2⟩ := q3 q hm
        have s68 := s7.trans s8
        exact ⟨_, rfl, _, rfl, _, rfl, q.1, _, 1, _, rfl, rfl, SqT.of (s8 _ _ a1), rfl, p, lt, wt, n, root, es, ws, q.2, rfl, extN_parts (ExtN.of s68) hpa6, extN_widths (ExtN.of s68) hw6, hslots _ (by rw [q2]; exact List.mem_map_of_mem hm), fun H9 s9 => qq _ H9 s9 rfl⟩
      · rw [List.filter_eq_self.mpr (fun _ _ => rfl)] at r
        have e := Paired.eq_map r
        subst e
        have ee : qs.map (fun q => vn (widthInto es ws q.2)) = (((sides n root).map (widthInto es ws)).map fun n : Nat => (n : Int)).map V.int := by
          rw [q2, List.map_map, List.map_map, List.map_map]
          rfl
        refine ⟨D2, ((sides n root).map (widthInto es ws)).map fun n : Nat => (n : Int), rfl, by rw [← ee]; exact SqL.of hD8, ?_, fun m hm hle => ?_⟩
        · rw [List.length_map, List.length_map]
          exact sides_pos n2 n10
        obtain ⟨least, hm', rfl⟩ := List.mem_map.mp hm
        have hmin : IsMin least ((sides n root).map (widthInto es ws)) := ⟨hm', fun y hy => by
          have := hle (y : Int) (List.mem_map.mpr ⟨y, hy, rfl⟩)
          omega⟩
        have hleast : least ≤ 1200 := by
          obtain ⟨l, _, rfl⟩ := List.mem_map.mp hm'
          have := widthInto_le (es := es) (l := l) hw6.2.2
          omega
        have s68 := s7.trans s8
        have hh8 := hh6.same s68
        have T8 := T6.ext s68
        have hpa8 := extN_parts (ExtN.of s68) hpa6
        have hnet8 := extN_net (ExtN.of s68) hnet6
        have hw8 := extN_widths (ExtN.of s68) hw6
        have hwb : ∀ x ∈ ws, x < 1024 := fun x hx => by have := hw6.2.2 x hx; omega
        have hwl : ws.length ≤ 1000 := by have := hw6.2.1; omega
        -- told, ahead
        refine ⟨_, rfl, _, rfl, g, lt, wt, n, root, es, ws, rfl, hnet8, hpa8.2.1, hw8, by omega, n2, n10, hroot, fun H9 m9 s9 hm9 => ?_⟩
        have em : m9 = least := IsMin.uniq hm9 hmin
        subst em
        have hh9 := hh8.same s9
        have T9 := T8.ext s9
        have hpa9 := extN_parts (ExtN.of s9) hpa8
        have hnet9 := extN_net (ExtN.of s9) hnet8
        have hw9 := extN_widths (ExtN.of s9) hw8
        refine ⟨_, rfl, wt, ws, rfl, SqT.of hw9.1, hwb, hwl, ?_⟩
        refine ⟨_, _, rfl, ?_⟩
        refine ⟨_, rfl, _, _, _, rfl, true, ?_, ?_⟩
        · rw [decide_eq_true (show (0 : Int) ≤ (m9 : Int) ∧ (m9 : Int) ≤ 1200 by omega)]
        refine iteF ?_
        refine ⟨_, rfl, _, rfl, rfl, ?_⟩
        refine ⟨_, rfl, ?_⟩
        show if (!decide (vn m9 = vn m9)) = true then _ else _
        have e0 : (!decide (vn m9 = vn m9)) = false := by rw [decide_eq_true rfl]; rfl
        rw [e0]
        refine iteF ?_
        -- most
        refine ⟨fun σ H' => HandO H' h ca cs ∧ Tabs (tabsT K) H' ∧ PartsO H' p n root lt es ∧ NetO K H' g n root lt ∧ WidthsO H' wt ws es ∧ ∃ (most : Nat) (v2 v7 v11 : Option V), most ≤ 40 ∧ σ = [some (.ref a), some (.ref h), v2, some (.ref p), some (.ref g), some (.ref wt), some (vn m9), v7, some (vn m9), some (.str (shownN ws)), some (vn most), v11], ?_, ?_⟩
        · refine ⟨by show 2 ≤ sizeLine; rw [sizeLine_eq]; decide, fun D3 nD3 => ?_⟩
          have s10 : Same H9 (upd H9 D3 (.lst (vns [12, 40]))) := same_new nD3
          have hD3 : upd H9 D3 (.lst (vns [12, 40])) D3 = some (.lst (vns [12, 40])) := upd_same
          obtain ⟨nD3h, _⟩ := hh9.new nD3
          have hh10 := hh9.same s10
          have T10 := T9.ext s10
          have hpa10 := extN_parts (ExtN.of s10) hpa9
          have hnet10 := extN_net (ExtN.of s10) hnet9
          have hw10 := extN_widths (ExtN.of s10) hw9
          show tCB _ _ _ (upd H9 D3 (.lst (vns [12, 40]))) _
          revert hD3 hh10 T10 hpa10 hnet10 hw10
          generalize upd H9 D3 (.lst (vns [12, 40])) = H10
          intro hD3 hh10 T10 hpa10 hnet10 hw10
          refine ⟨_, rfl, p, _, 0, _, rfl, rfl, SqT.of hpa10.1, rfl, _, _, rfl, rfl, decide ((n : Int) < 8), rfl, ?_⟩
          cases decide ((n : Int) < 8) with
          | true =>
            refine iteT (.inr ⟨true, rfl, D3, _, 1, vn 40, rfl, rfl, SqL.of hD3, rfl, ?_⟩)
            exact ⟨hh10, T10, hpa10, hnet10, hw10, 40, _, _, _, by decide, rfl⟩
          | false =>
            refine iteF ?_
            refine ⟨_, rfl, p, _, 0, _, rfl, rfl, SqT.of hpa10.1, rfl, _, _, rfl, rfl, decide ((n : Int) < 10), rfl, ?_⟩
            cases decide ((n : Int) < 10) with
            | false =>
              refine iteF (.inr ⟨false, rfl, D3, _, 0, vn 12, rfl, rfl, SqL.of hD3, rfl, ?_⟩)
              exact ⟨hh10, T10, hpa10, hnet10, hw10, 12, _, _, _, by decide, rfl⟩
            | true =>
              refine iteT ?_
              refine ⟨_, rfl, h, ca, cs, 8, rfl, hh10, by decide, by decide, fun H11 r hr11 eb11 hh11 => ?_⟩
              refine ⟨rfl, ?_⟩
              have hD11 := eb11 _ _ nD3h hD3
              cases decide (vn r = V.int 0) with
              | true =>
                refine .inr ⟨true, rfl, D3, _, 1, vn 40, rfl, rfl, SqL.of hD11, rfl, ?_⟩
                exact ⟨hh11, tabs_but eb11 hh10 T10, parts_but eb11 hh10 hpa10, netO_but eb11 hh10 hnet10, widths_but eb11 hh10 hw10, 40, _, _, _, by decide, rfl⟩
              | false =>
                refine .inr ⟨false, rfl, D3, _, 0, vn 12, rfl, rfl, SqL.of hD11, rfl, ?_⟩
                exact ⟨hh11, tabs_but eb11 hh10 T10, parts_but eb11 hh10 hpa10, netO_but eb11 hh10 hnet10, widths_but eb11 hh10 hw10, 12, _, _, _, by decide, rfl⟩
        · rintro σ H10 ⟨hh10, T10, hpa10, hnet10, hw10, most, u2, u7, u11, hmost, rfl⟩
          refine ⟨_, rfl, _, rfl, _, _, rfl, _, rfl, _, rfl, _, _, rfl, rfl, _, _, rfl, ?_⟩
          refine ⟨_, rfl, _, rfl, _, _, rfl, rfl, h, ca, cs, most + 1, rfl, hh10, by omega, by omega, fun H11 r hr11 eb11 hh11 => ?_⟩
          have hpa11 := parts_but eb11 hh10 hpa10
          have hnet11 := netO_but eb11 hh10 hnet10
          have hw11 := widths_but eb11 hh10 hw10
          have T11 := tabs_but eb11 hh10 T10
          refine ⟨by show 3 ≤ sizeLine; rw [sizeLine_eq]; decide, fun D12 nD12 => ?_⟩
          obtain ⟨c1, c2, ec1, ec2, hc1, hc2⟩ : ∃ c1 c2 : Nat, V.int (if (m9 : Int) < (most : Int) then (m9 : Int) else (most : Int)) = vn c1 ∧ V.int (if (m9 : Int) + 1 < (most : Int) then (m9 : Int) + 1 else (most : Int)) = vn c2 ∧ c1 ≤ 40 ∧ c2 ≤ 40 := by
            refine ⟨if m9 < most then m9 else most, if m9 + 1 < most then m9 + 1 else most, ?_, ?_, ?_, ?_⟩
            · unfold vn
              congr 1
              split <;> split <;> omega
            · unfold vn
              congr 1
              split <;> split <;> omega
            · split <;> omega
            · split <;> omega
          have elist : [V.int (if (m9 : Int) < (most : Int) then (m9 : Int) else (most : Int)), V.int (if (m9 : Int) + 1 < (most : Int) then (m9 : Int) + 1 else (most : Int)), vn r] = vns [c1, c2, r] := by
            rw [ec1, ec2]; rfl
          show ∃ a1, V.ref D12 = V.ref a1 ∧ _
          have s12 : Same H11 (upd H11 D12 (.lst [V.int (if (m9 : Int) < (most : Int) then (m9 : Int) else (most : Int)), V.int (if (m9 : Int) + 1 < (most : Int) then (m9 : Int) + 1 else (most : Int)), vn r])) := same_new nD12
          have hD12 : upd H11 D12 (.lst [V.int (if (m9 : Int) < (most : Int) then (m9 : Int) else (most : Int)), V.int (if (m9 : Int) + 1 < (most : Int) then (m9 : Int) + 1 else (most : Int)), vn r]) D12 = some (.lst (vns [c1, c2, r])) := by rw [upd_same, elist]
          refine ⟨D12, rfl, ⟨_, SqL.of hD12⟩, ?_⟩
          revert s12 hD12
          generalize upd H11 D12 (.lst [V.int (if (m9 : Int) < (most : Int) then (m9 : Int) else (most : Int)), V.int (if (m9 : Int) + 1 < (most : Int) then (m9 : Int) + 1 else (most : Int)), vn r]) = H12
          intro s12 hD12
          have e12 := ExtN.of s12
          refine for_list (K := K) (a := D12) (xs := vns [c1, c2, r]) (fun i σ H' => ExtN H12 H' ∧ Tabs (tabsT K) H' ∧ ∃ v11 : Option V, σ = [some (.ref a), some (.ref h), u2, some (.ref p), some (.ref g), some (.ref wt), some (vn m9), u7, some (vn m9), some (.str (shownN ws)), some (vn most), v11]) ⟨ExtN.refl _, T11.ext s12, u11, rfl⟩ (fun i σ H' _ z => SqL.of (z.1 _ _ hD12 (fun _ z => nomatch z))) ?_ ?_
          · rintro i x σ H13 hi ⟨e13, T13, v11, rfl⟩
            obtain ⟨cc, hcc, rfl⟩ := vns_get hi
            have hcb : cc ≤ 40 := by
              have := List.mem_of_getElem? hcc
              simp only [List.mem_cons, List.mem_nil_iff, or_false] at this
              omega
            have eA := e12.trans e13
            refine ⟨_, rfl, _, rfl, _, rfl, _, rfl, p, g, wt, lt, n, root, cc, es, ws, rfl, extN_parts eA hpa11, extN_net eA hnet11, extN_widths eA hw11, hcb, T13, fun H14 e14 T14 => ?_⟩
            refine ⟨true, rfl, ?_⟩
            exact iteF ⟨e13.trans e14, T14, _, rfl⟩
          · rintro σ H13 ⟨e13, T13, v11, rfl⟩
            have eA := e12.trans e13
            have hh13 := handO_ext eA hh11
            have hnet13 := extN_net eA hnet11
            have hpa13 := extN_parts eA hpa11
            have hw13 := extN_widths eA hw11
            refine ⟨T13, fun H14 e14 T14 p0 np0 => ?_⟩
            have s15 : Same H14 (upd H14 p0 (.tup [.str "other", .non])) := same_new np0
            have eB : ExtN H13 (upd H14 p0 (.tup [.str "other", .non])) := e14.trans (ExtN.of s15)
            have T15 := T14.ext s15
            revert eB T15
            generalize upd H14 p0 (.tup [.str "other", .non]) = H15
            intro eB T15
            refine ⟨_, rfl, _, rfl, g, lt, wt, n, root, 0, es, ws, rfl, extN_net eB hnet13, extN_links eB hpa13.2.1, extN_widths eB hw13, hz, n2, n10, hroot, hes, by decide, fun _ H16 t rows s16 hL hG => ?_, fun pre l post hs hpre hl => absurd hl (Nat.not_lt_zero _)⟩
            have hr0 : rows = [] := List.length_eq_zero_iff.mp (Nat.le_zero.mp hG.few)
            subst hr0
            obtain ⟨ras, ht16, hras⟩ := hL
            have hras0 : ras = [] := List.length_eq_zero_iff.mp (Paired.len hras)
            subst hras0
            refine ⟨by show 2 ≤ sizeLine; rw [sizeLine_eq]; decide, fun tp ntp => ?_⟩
            refine ⟨_, rfl, ?_⟩
            have s17 : Same H16 (upd H16 tp (.tup [.str "told", .ref t])) := same_new ntp
            have htp17 : upd H16 tp (.tup [.str "told", .ref t]) tp = some (.tup [.str "told", .ref t]) := upd_same
            revert s17 htp17
            generalize upd H16 tp (.tup [.str "told", .ref t]) = H17
            intro s17 htp17
            refine ⟨by show 0 ≤ sizeLine; omega, fun z nz => ?_⟩
            have s18 : Same H17 (upd H17 z (.tup [])) := same_new nz
            have hz18 : upd H17 z (.tup []) z = some (.tup (vns [])) := upd_same
            revert s18 hz18
            generalize upd H17 z (.tup []) = H18
            intro s18 hz18
            refine ⟨by show 2 ≤ sizeLine; rw [sizeLine_eq]; decide, fun tq ntq => ?_⟩
            have s19 : Same H18 (upd H18 tq (.tup [.str "told", .ref z])) := same_new ntq
            have htq19 : upd H18 tq (.tup [.str "told", .ref z]) tq = some (.tup [.str "told", .ref z]) := upd_same
            revert s19 htq19
            generalize upd H18 tq (.tup [.str "told", .ref z]) = H19
            intro s19 htq19
            have sAll : Same H15 H19 := fun b o q => s19 _ _ (s18 _ _ (s17 _ _ (s16 _ _ q)))
            have ht19 : H19 t = some (.tup (vns [])) := s19 _ _ (s18 _ _ (s17 _ _ ht16))
            refine ⟨tp, tq, t, z, "told", [], rfl, rfl, s19 _ _ (s18 _ _ htp17), htq19, SqT.of ht19, SqT.of (s19 _ _ hz18), false, rfl, ?_⟩
            refine iteF ?_
            have eC : ExtN H13 H19 := eB.trans (ExtN.of sAll)
            refine ⟨_, rfl, wt, ws, rfl, SqT.of (extN_widths eC hw13).1, hwb, hwl, _, rfl, rfl, ?_⟩
            refine ⟨_, rfl, ?_⟩
            show if (!decide (V.str (shownN ws) = V.str (shownN ws))) = true then _ else _
            have e1 : (!decide (V.str (shownN ws) = V.str (shownN ws))) = false := by rw [decide_eq_true rfl]; rfl
            rw [e1]
            refine iteF ?_
            exact ⟨handO_ext eC hh13, T15.ext sAll, _, _, _, _, _, _, _, _, _, _, rfl, .inr ⟨g, wt, rfl, rfl, lt, n, root, es, ws, extN_net eC hnet13, extN_links eC hpa13.2.1, extN_widths eC hw13, hz, n2, n10, hroot⟩⟩
    · rintro σ H2 ⟨hh2, T2, v2, v3, v4, v5, v6, v7, v8, v9, v10, v11, rfl, hc⟩
      rcases hc with hc | ⟨g, wt, rfl, rfl, lt, n, root, es, ws, hnet, hlt, hw, hz, n2, n10, hroot⟩
      · exact absurd hc (by decide)
      refine ⟨_, rfl, by show 1 ≤ sizeLine; rw [sizeLine_eq]; decide, fun t nt => ?_⟩
      have s3 : Same H2 (upd H2 t (.tup [.int 0])) := same_new nt
      have ht3 : upd H2 t (.tup [.int 0]) t = some (.tup [vn 0]) := upd_same
      revert s3 ht3
      generalize upd H2 t (.tup [.int 0]) = H3
      intro s3 ht3
      have hw3 := extN_widths (ExtN.of s3) hw
      have hnet3 := extN_net (ExtN.of s3) hnet
      have hlt3 := extN_links (ExtN.of s3) hlt
      have hmin : ∀ m, IsMin m ((sides n root).map (widthInto es (List.replicate es.length 0))) → m = 0 := fun m hm => by
        obtain ⟨l, _, rfl⟩ := List.mem_map.mp hm.1
        have := widthInto_le (es := es) (ws := List.replicate es.length 0) (l := l) (b := 0) fun x hx => by rw [(List.mem_replicate.mp hx).2]; exact Nat.le_refl _
        omega
      have hwl : ws.length = es.length := hw.2.1
      refine ⟨_, rfl, _, ws.length, rfl, .inr ⟨_, SqT.of hw3.1, (vns_len _).symm⟩, t, ws.length, [vn 0], rfl, rfl, SqT.of ht3, (fun z => nomatch z), by omega, by show 1 ≤ 1000; decide, fun e1 => ?_, fun _ z nz => ?_⟩
      · refine ⟨g, lt, t, n, root, es, List.replicate es.length 0, rfl, hnet3, hlt3, ⟨by rw [← hwl, e1]; exact ht3, List.length_replicate, fun x hx => by rw [(List.mem_replicate.mp hx).2]; exact Nat.zero_le _⟩, by omega, n2, n10, hroot, fun H5 m s5 hm => ⟨rfl, ?_⟩⟩
        rw [hmin m hm]
        exact k H5
      · have s4 : Same H3 (upd H3 z (.tup (List.replicate ws.length [vn 0]).flatten)) := same_new nz
        refine ⟨g, lt, z, n, root, es, List.replicate es.length 0, rfl, extN_net (ExtN.of s4) hnet3, extN_links (ExtN.of s4) hlt3, ⟨by rw [upd_same, hwl, rep_one], List.length_replicate, fun x hx => by rw [(List.mem_replicate.mp hx).2]; exact Nat.zero_le _⟩, by omega, n2, n10, hroot, fun H5 m s5 hm => ⟨rfl, ?_⟩⟩
        rw [hmin m hm]
        exact k H5
end
end Spt

set_option Elab.async false
set_option linter.all false
set_option maxRecDepth 100000
set_option maxHeartbeats 4000000
/-! the end, for a law whose promise holds where no repr is under way -/
namespace Spt
open PySem PySem.Spec PyProof.Rows L2 LamX
/-- an empty table of code objects -/
abbrev tblObj : Obj := { cls := .none, data := .fields #[] }
/-- the script's object -/
abbrev scrObj (vs : List Value) : Obj := { cls := .type "list", data := .seq vs.toArray }
/-- what is tracked when the law is called: the two tables; the script, unless K tells it -/
def firstH (K : PySem.W.Frag) (a p1 p2 : Addr) (vs : List Value) (ns : List Int) : Hp := fun b =>
  if b = p1 ∨ b = p2 then some (.tbl #[]) else if b = a ∧ K.lookup a = none then some (.frz (scrObj vs) (.lst (ns.map V.int))) else none
section
variable {K : PySem.W.Frag} {a p1 p2 b : Addr} {vs : List Value} {ns : List Int}
theorem firstH_t (h : b = p1 ∨ b = p2) : firstH K a p1 p2 vs ns b = some (.tbl #[]) := if_pos h
theorem firstH_a (n1 : a ≠ p1) (n2 : a ≠ p2) (h : K.lookup a = none) : firstH K a p1 p2 vs ns a = some (.frz (scrObj vs) (.lst (ns.map V.int))) := by
  unfold firstH
  rw [if_neg (by rintro (z | z) <;> contradiction), if_pos ⟨rfl, h⟩]
theorem firstH_some {o : HO} (h : firstH K a p1 p2 vs ns b = some o) : ((b = p1 ∨ b = p2) ∧ o = .tbl #[]) ∨ (b = a ∧ K.lookup a = none ∧ o = .frz (scrObj vs) (.lst (ns.map V.int))) := by
  unfold firstH at h
  split at h
  · rename_i z
    exact .inl ⟨z, (Option.some.inj h).symm⟩
  · split at h
    · rename_i z
      exact .inr ⟨z.1, z.2, (Option.some.inj h).symm⟩
    · cases h
theorem first_free {h : Heap} {o : Obj} (e : h.get? b = some o) (e1 : h.get? p1 = some tblObj) (e2 : h.get? p2 = some tblObj) (ea : h.get? a = some (scrObj vs)) (d1 : o.data ≠ .fields #[]) (d2 : ∀ xs n, o.data ≠ .seq xs n) : firstH K a p1 p2 vs ns b = none := by
  cases q : firstH K a p1 p2 vs ns b with
  | none => rfl
  | some u =>
    rcases firstH_some q with ⟨z | z, _⟩ | ⟨z, _⟩
    · rw [z, e1] at e; cases e; exact absurd rfl d1
    · rw [z, e2] at e; cases e; exact absurd rfl d1
    · rw [z, ea] at e; cases e; exact absurd rfl (d2 _ _)
theorem first_ok {P : Program} {w : World} {h : Heap} (e1 : h.get? p1 = some tblObj) (e2 : h.get? p2 = some tblObj) (ea : h.get? a = some (scrObj vs)) (hi : IntsAre vs ns) (hl : ns.length ≤ sizeLine) : HOk P w (firstH K a p1 p2 vs ns) h := fun b o q => by
  rcases firstH_some q with ⟨z | z, rfl⟩ | ⟨rfl, _, rfl⟩
  · subst z; exact e1
  · subst z; exact e2
  · exact ⟨ea, by rw [List.length_map]; exact hl, vs, _, vals_ints hi, ea⟩
end
/-- the law called, no repr under way -/
theorem call_lawG {P : Program} {w : World} {K : PySem.W.Frag} {mg mb : Str → Option Value} {k : Nat} {fa a c1 p1 c2 p2 : Addr} {x : Str} {sp : Sp} {s₁ : Shared} {vs : List Value} {ns : List Int}
    (KX : K.In s₁.heap) (hns : s₁.heap.Ns mainGlobals mg) (hb : s₁.heap.Ns builtinsNs mb) (hbb : ∀ x : Str, x ≠ "__name__" → mb x = bootBuiltins x) (hlim : s₁.heap.NoLimit) (hg : s₁.gens = #[])
    (e1 : s₁.heap.get? p1 = some tblObj) (e2 : s₁.heap.get? p2 = some tblObj) (n1 : K.lookup p1 = none) (n2 : K.lookup p2 = none) (C1 : PySem.W.CodeHd s₁.heap c1 p1) (C2 : PySem.W.CodeHd s₁.heap c2 p2)
    (hbm : ∃ (bm : Addr) (ob : Obj), mg "__builtins__" = some (.ref bm) ∧ bm ≠ builtinsNs ∧ s₁.heap.get? bm = some ob ∧ ob.cls = .type "module" ∧ ob.dict = some builtinsNs ∧ ob.data = .plain)
    (ea : s₁.heap.get? a = some (scrObj vs)) (hi : IntsAre vs ns) (hl : ns.length ≤ sizeLine) (hr : Room k callerA)
    (F : ∀ base : Heap, K.In base → base.Ns mainGlobals mg → TabB base mg c1 p1 → TabB base mg c2 p2 → FnG P w K mg base k fa [x] sp)
    (hsp : ∀ H : Hp, H p1 = some (.tbl #[]) → H p2 = some (.tbl #[]) → SqL K H a (ns.map V.int) → sp [.ref a] H (fun v _ => v = .bl true) fun _ _ _ => False) :
    codeAny (model P w) callerA (.call (.ref fa) ⟨[.ref a], []⟩) (fun r s' => r = .ok (.ret (.bool true)) ∧ OldK s₁.heap s'.heap ∧ s'.os = s₁.os ∧ AllBare s'.gens) s₁ := by
  have na1 : a ≠ p1 := fun z => by rw [z, e1] at ea; cases ea
  have na2 : a ≠ p2 := fun z => by rw [z, e2] at ea; cases ea
  obtain ⟨H, hH⟩ : ∃ H, H = firstH K a p1 p2 vs ns := ⟨_, rfl⟩
  have hok : HOk P w H s₁.heap := by rw [hH]; exact first_ok e1 e2 ea hi hl
  have t1 : H p1 = some (.tbl #[]) := by rw [hH]; exact firstH_t (.inl rfl)
  have t2 : H p2 = some (.tbl #[]) := by rw [hH]; exact firstH_t (.inr rfl)
  have free : ∀ {b : Addr} {o : Obj}, s₁.heap.get? b = some o → o.data ≠ .fields #[] → (∀ xs n, o.data ≠ .seq xs n) → (hidT s₁.heap H).get? b = some o := fun e d1 d2 => hidT_get e (by rw [hH]; exact first_free e e1 e2 ea d1 d2)
  have hKb : K.In (hidT s₁.heap H) := fun b o q => hidT_get (KX b o q) (by
    cases z : H b with
    | none => rfl
    | some u =>
      rw [hH] at z
      rcases firstH_some z with ⟨y | y, _⟩ | ⟨y, y2, _⟩
      · rw [y, n1] at q; cases q
      · rw [y, n2] at q; cases q
      · rw [y, y2] at q; cases q)
  have nsB : ∀ {b : Addr} {m : Str → Option Value}, s₁.heap.Ns b m → (hidT s₁.heap H).Ns b m := fun {b m} ⟨o, es, ep, e, d, r⟩ => ⟨o, es, ep, free e (by rw [d]; exact fun z => nomatch z) (by rw [d]; exact fun _ _ z => nomatch z), d, r⟩
  have hM : L2.Mod K mg (hidT s₁.heap H) := ⟨hKb, nsB hns, ⟨mb, nsB hb, hbb⟩, let ⟨mc, h1, h2⟩ := hlim; ⟨mc, nsB h1, h2⟩⟩
  have TB : ∀ {c p : Addr}, s₁.heap.get? p = some tblObj → PySem.W.CodeHd s₁.heap c p → TabB (hidT s₁.heap H) mg c p := fun {c p} ep C => by
    obtain ⟨oG, es, en, eG, hd, _⟩ := id hns
    have nG : mainGlobals ≠ p := fun z => by
      rw [z, ep] at eG
      cases eG
      cases hd
    refine ⟨?_, ?_, nG⟩
    · obtain ⟨o, us, file, tf, flags, tg, inF, text, tt, q, r1, r2, r3, rest⟩ := C
      exact ⟨o, us, file, tf, flags, tg, inF, text, tt, free q (by rw [r2]; intro z; cases z; simp at r3) (by rw [r2]; exact fun _ _ z => nomatch z), r1, r2, r3, rest⟩
    · obtain ⟨bm, ob, b1, b2, b3, b4, b5, b6⟩ := hbm
      refine ⟨bm, ob, b1, b2, fun z => ?_, fun z => ?_, free b3 (by rw [b6]; exact fun z => nomatch z) (by rw [b6]; exact fun _ _ z => nomatch z), b4, b5, b6⟩
      · rw [z, eG] at b3
        cases b3
        rw [hd] at b6
        cases b6
      · rw [z, ep] at b3
        cases b3
        cases b6
  have e0 : Env0 P w K mg (hidT s₁.heap H) callerA [] s₁ H := ⟨rfl, hM, fun b o e => of_hidT e, Nat.le_of_eq (hidT_size _ _), trivial, fun b hb => absurd (show b ∈ ([] : List Addr) from hb) (by simp), hok, .of_eq hg⟩
  have hS : SqL K H a (ns.map V.int) := by
    cases q : K.lookup a with
    | none => exact .inl (.inr ⟨_, by rw [hH]; exact firstH_a na1 na2 q⟩)
    | some o =>
      have e := KX a o q
      rw [ea] at e
      cases e
      exact .inr ⟨_, vs.toArray, _, q, rfl, rfl, rfl, by rw [List.size_toArray, hi.length]; exact hl, by simpa using vals_ints hi⟩
  obtain ⟨fd, run, hbd, _, _⟩ := F _ hKb (nsB hns) (TB e1 C1) (TB e2 C2)
  have hbt := hbd s₁ [.ref a] KX rfl
  refine codeAny_mono (run callerA [] s₁ H ⟨[.ref a], []⟩ [.ref a] [.ref a] _ _ hr rfl e0 hbt (.cons rfl .nil) (hsp H t1 t2 hS)) fun r s' h => ?_
  cases r with
  | error e => exact (show False from h).elim
  | ok fl =>
    cases fl with
    | next => exact False.elim h
    | brk => exact False.elim h
    | cont => exact False.elim h
    | ret u =>
      obtain ⟨v, H', os, bare, un, hok', r', q⟩ := h
      have q' : v = .bl true := q
      subst q'
      obtain rfl : u = Value.bool true := r'
      have grown : ∀ {c p : Addr}, s₁.heap.get? p = some tblObj → H p = some (.tbl #[]) → PySem.W.CodeHd s₁.heap c p → ∃ more : Array Value, s'.heap.get? p = some { cls := .none, data := .fields more } := fun {c p} ep tp C => by
        obtain ⟨more, z⟩ := un.tbls p #[] tp
        exact ⟨_, hok' p _ z⟩
      obtain ⟨m1, g1⟩ := grown e1 t1 C1
      obtain ⟨m2, g2⟩ := grown e2 t2 C2
      have key : ∀ b o, b ≠ p1 → b ≠ p2 → s₁.heap.get? b = some o → s'.heap.get? b = some o := fun b o x1 x2 e => by
        cases z : H b with
        | none => exact un.keep b o e z (by simp [frs]) (by simp)
        | some u =>
          have z' := z
          rw [hH] at z'
          rcases firstH_some z' with ⟨y | y, _⟩ | ⟨y, _, rfl⟩
          · exact absurd y x1
          · exact absurd y x2
          · have z2 := un.frzs b _ _ z
            obtain ⟨q1, _⟩ := hok' b _ z2
            rw [y, ea] at e
            cases e
            exact q1
      refine ⟨rfl, ⟨fun b o e => ?_, fun b o e => ?_⟩, os, bare⟩
      · by_cases x1 : b = p1
        · subst x1
          rw [e1] at e
          cases e
          exact .inr (.inl ⟨(C1.tab e1).isCodeTable, rfl, #[], m1, rfl, by rw [Array.empty_append]; exact g1⟩)
        · by_cases x2 : b = p2
          · subst x2
            rw [e2] at e
            cases e
            exact .inr (.inl ⟨(C2.tab e2).isCodeTable, rfl, #[], m2, rfl, by rw [Array.empty_append]; exact g2⟩)
          · exact .inl (key b o x1 x2 e)
      · by_cases x1 : b = p1
        · exact ⟨_, by rw [x1]; exact g1⟩
        · by_cases x2 : b = p2
          · exact ⟨_, by rw [x2]; exact g2⟩
          · exact ⟨o, key b o x1 x2 e⟩
end Spt

set_option Elab.async false
set_option linter.all false
set_option maxRecDepth 100000
set_option maxHeartbeats 0
open PySem PySem.W PySem.Calls PyProof.Rows
theorem PySem.Challenge.cw_sparetrees_k22_whole_rates_and_loads_holds : PySem.Challenge.rw_sparetrees_k22_whole_rates_and_loads.Holds := by
  w_on; o_law
  refine HandSHeadRun.head_imp (r := OpenLaw.row PySem.Challenge.rw_sparetrees_k22_whole_rates_and_loads) (q := view (OpenLaw.row PySem.Challenge.rw_sparetrees_k22_whole_rates_and_loads).prog [0, 65]) (H := Spt.hk) (ob := Spt.ob) (M := 20000) (loose := Spt.loose0 ++ Spt.loose1 ++ Spt.loose2) (d := HandSHeadRun.topDef (OpenLaw.row PySem.Challenge.rw_sparetrees_k22_whole_rates_and_loads).prog 65) (kwd := []) Spt.ob_eq
    Spt.run (by kernel_rfl) (by kernel_rfl) (by kernel_rfl) (by rfl) (by first | assumption | decide +kernel) (by decide +kernel) ⟨rfl, rfl, rfl, rfl, rfl, by decide +kernel⟩ ?hw ?hc
  case hw => w_witness2
  case hc =>
    refine Att.attach_callB (l := PySem.Challenge.rw_sparetrees_k22_whole_rates_and_loads) (n := 63) rfl (by kernel_rfl) fun w s₀ s₁ mg mb fa o pm cd doc a vs ns G Y ho hd hcd hmg0 hobj hints hlen hbits hg => ?_
    obtain ⟨K, KX, c⟩ := Y
    obtain ⟨c1, c2⟩ := Bool.and_eq_true_iff.mp (show (Spt.exAll K && !decide ((He.cT K ("_law_is_answered", none)).2 = (He.cT K ("law", none)).2)) = true from c.more)
    have c' : He.SaysX Spt.faAll Spt.fnAll [] Spt.tabDefs Spt.exAll w s₁.heap K := ⟨c.t, c1, c.hd, c.out, c.empty⟩
    have T := Spt.Txt.of KX G.T.g c'
    have hne : Spt.pA K ≠ Spt.pL K := by
      rw [Bool.not_eq_true', decide_eq_false_iff_not] at c2
      exact c2
    have hmg : mg ("law" : PySem.Str) = some (.ref fa) := by
      have e : (HandSHeadRun.topDef (OpenLaw.row PySem.Challenge.rw_sparetrees_k22_whole_rates_and_loads).prog 65).name = ("law" : PySem.Str) := by kernel_rfl
      rw [← e]
      exact hmg0
    have efa : fa = He.ga K "law" := by
      have e := hmg.symm.trans T.g_law
      cases e
      rfl
    subst efa
    have mA : (("_law_is_answered", none) : He.Defn) ∈ Spt.tabDefs := List.mem_cons_self
    have mL : (("law", none) : He.Defn) ∈ Spt.tabDefs := List.mem_cons_of_mem _ List.mem_cons_self
    exact Spt.call_lawG (k := 10) (x := "_law_script") (sp := Spt.spLaw K) KX G.T.g G.T.b G.T.builtins G.T.nolimit hg (c.empty _ mA) (c.empty _ mL) (c.out _ mA) (c.out _ mL) (PySem.W.codeHd_of_K KX (c.hd _ mA)) (PySem.W.codeHd_of_K KX (c.hd _ mL)) G.T.bmain hobj hints (Nat.le_trans hlen (by rw [PySem.sizeLine_eq]; decide)) ⟨rfl, by decide, by decide⟩
      (fun base hK hN TA TL => Spt.okLaw T TA TL hne)
      (fun H h1 h2 hS => ⟨a, ns, rfl, hS, hlen, fun p hp => by
        rcases List.mem_cons.mp hp with rfl | hp
        · exact LamX.TabS.nil h1
        · rw [List.mem_singleton.mp hp]
          exact LamX.TabS.nil h2, fun _ => rfl⟩)
