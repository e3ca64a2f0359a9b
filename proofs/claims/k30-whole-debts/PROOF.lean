import PyProof.Rows.All
import Wide.All
import OpenK.AllK
import Wide.FinOn
import KE.KStateDown
import KE.GoesMore
import KE.GoesEnum
import KE.GoesZip
import KE.SortData
import PyProof.ReprReads
import PyProof.ReprRoads
import PyProof.CallFns
import HandS.ForMost
import HandS.More
import HandS.Walk
import HandS.Zip
import HandS.Strs
import HandS.IsInst
import HandS.WideBits
import HandS.Style
import HandS.Defaults
import HandS.SetFor
import HandS.Sort
import PyProof.Rows.RuleB_pow
import HandS.HeadEnd
import HandS.Head0
import HandS.Head1
import HandS.Head2
import HandS.HeadHook1
import HandS.HeadHook2
import PySem.Challenge.RW_timedoors_k30_whole_debts
import PyProof.ReprLen
set_option Elab.async false
set_option linter.all false
set_option maxRecDepth 100000
set_option maxHeartbeats 4000000
/-! #### Math -/
namespace K30
/-! The mathematics: what is lit, when a step is open, the debts; plain Lean. -/
/-- a door, a step -/
structure Dr where
  needs : List Nat
  room : Nat
  shift : Int
structure Stp where
  place : Nat
  goal : Nat
  needs : List Nat
/-- what is lit in n ticks, pressed by P -/
inductive Lit (ds : List Dr) (P : Nat → Nat → Prop) (n : Nat) : Nat → Nat → Prop
  | press {t r : Nat} : t < n → P t r → Lit ds P n t r
  | door {d : Dr} {t u : Nat} : d ∈ ds → t < n → u < n → (u : Int) = (t : Int) + d.shift → (∀ x ∈ d.needs, Lit ds P n t x) → Lit ds P n u d.room
section
variable {ds : List Dr} {P P' : Nat → Nat → Prop} {n n' : Nat}
theorem Lit.lt {t r : Nat} (h : Lit ds P n t r) : t < n := by
  cases h with
  | press h _ => exact h
  | door _ _ h _ _ => exact h
/-- what is closed and has the presses has all that is lit -/
theorem Lit.least {S : Nat → Nat → Prop} (h1 : ∀ t r, t < n → P t r → S t r) (h2 : ∀ d ∈ ds, ∀ t u : Nat, t < n → u < n → (u : Int) = (t : Int) + d.shift → (∀ x ∈ d.needs, S t x) → S u d.room) :
    ∀ {t r : Nat}, Lit ds P n t r → S t r := by
  intro t r h
  induction h with
  | press a b => exact h1 _ _ a b
  | door a b c e _ ih => exact h2 _ a _ _ b c e ih
theorem Lit.mono (hp : ∀ t r, t < n → P t r → P' t r) (hn : n ≤ n') {t r : Nat} (h : Lit ds P n t r) : Lit ds P' n' t r := by
  induction h with
  | press a b => exact .press (Nat.lt_of_lt_of_le a hn) (hp _ _ a b)
  | door a b c e _ ih => exact .door a (Nat.lt_of_lt_of_le b hn) (Nat.lt_of_lt_of_le c hn) e ih
theorem Lit.congr (hp : ∀ t r, t < n → (P t r ↔ P' t r)) {t r : Nat} : Lit ds P n t r ↔ Lit ds P' n t r :=
  ⟨Lit.mono (fun t r h => (hp t r h).mp) (Nat.le_refl _), Lit.mono (fun t r h => (hp t r h).mpr) (Nat.le_refl _)⟩
/-- without time doors what comes later lights nothing -/
theorem Lit.early (hd : ∀ d ∈ ds, 0 ≤ d.shift) {t r : Nat} (h : Lit ds P n t r) : ∀ m, t < m → Lit ds P m t r := by
  induction h with
  | press a b => exact fun m hm => .press hm b
  | @door d t u a b c e _ ih =>
    intro m hm
    have := hd d a
    have h1 : t < m := by omega
    exact .door a h1 hm e fun x hx => ih x hx m h1
theorem Lit.room {R : Nat} (hp : ∀ t r, t < n → P t r → r < R) (hd : ∀ d ∈ ds, d.room < R) {t r : Nat} (h : Lit ds P n t r) : r < R := by
  cases h with
  | press a b => exact hp _ _ a b
  | door a _ _ _ _ => exact hd _ a
end
/-- some step from a to b is open at the tick t in the light of the first m ticks -/
def Opens (ds : List Dr) (P : Nat → Nat → Prop) (ss : List Stp) (a b t m : Nat) : Prop := ∃ s ∈ ss, s.place = a ∧ s.goal = b ∧ ∀ x ∈ s.needs, Lit ds P m t x
open Classical in
/-- how many first ticks open it: 0 where the hand stays, none if none do -/
noncomputable def opened (ds : List Dr) (P : Nat → Nat → Prop) (ss : List Stp) (n a b t : Nat) : Option Nat :=
  if a = b then some 0 else (List.range' (t + 1) (n - t)).find? fun m => decide (Opens ds P ss a b t m)
section
variable {ds : List Dr} {P : Nat → Nat → Prop} {ss : List Stp} {n a b t m : Nat}
theorem opened_stay : opened ds P ss n a a t = some 0 := if_pos rfl
theorem opened_none (hab : a ≠ b) (h : ∀ m, t < m → m ≤ n → ¬ Opens ds P ss a b t m) : opened ds P ss n a b t = none := by
  unfold opened
  rw [if_neg hab, List.find?_eq_none]
  intro m hm
  rw [List.mem_range'_1] at hm
  simpa using h m (by omega) (by omega)
theorem opened_some (hab : a ≠ b) (h1 : t < m) (h2 : m ≤ n) (h : Opens ds P ss a b t m) (hb : ∀ k, t < k → k < m → ¬ Opens ds P ss a b t k) : opened ds P ss n a b t = some m := by
  unfold opened
  rw [if_neg hab, List.find?_range'_eq_some]
  refine ⟨by simpa using h, ?_, fun j hj hk => ?_⟩
  · rw [List.mem_range'_1]
    omega
  · simpa using hb j (by omega) hk
theorem opened_cases : (a = b ∧ opened ds P ss n a b t = some 0) ∨ (a ≠ b ∧ opened ds P ss n a b t = none ∧ ∀ m, t < m → m ≤ n → ¬ Opens ds P ss a b t m) ∨
    ∃ m, a ≠ b ∧ opened ds P ss n a b t = some m ∧ t < m ∧ m ≤ n ∧ Opens ds P ss a b t m ∧ ∀ k, t < k → k < m → ¬ Opens ds P ss a b t k := by
  by_cases hab : a = b
  · exact .inl ⟨hab, by unfold opened; rw [if_pos hab]⟩
  · cases e : opened ds P ss n a b t with
    | none =>
      have e' := e
      unfold opened at e'
      rw [if_neg hab, List.find?_eq_none] at e'
      refine .inr (.inl ⟨hab, rfl, fun m h1 h2 => ?_⟩)
      have := e' m (by rw [List.mem_range'_1]; omega)
      simpa using this
    | some m =>
      have e' := e
      unfold opened at e'
      rw [if_neg hab, List.find?_range'_eq_some] at e'
      obtain ⟨g1, g2, g3⟩ := e'
      rw [List.mem_range'_1] at g2
      refine .inr (.inr ⟨m, hab, rfl, by omega, by omega, by simpa using g1, fun k h1 h2 => ?_⟩)
      have := g3 k (by omega) h2
      simpa using this
theorem Opens.mono {m m' : Nat} (h : m ≤ m') (o : Opens ds P ss a b t m) : Opens ds P ss a b t m' := by
  obtain ⟨s, h1, h2, h3, h4⟩ := o
  exact ⟨s, h1, h2, h3, fun x hx => (h4 x hx).mono (fun _ _ _ z => z) h⟩
/-- it is told exactly if the step is open in the light of all -/
theorem opened_isNone (ht : t < n) : opened ds P ss n a b t = none ↔ ¬ (a = b ∨ Opens ds P ss a b t n) := by
  rcases opened_cases (ds := ds) (P := P) (ss := ss) (n := n) (a := a) (b := b) (t := t) with ⟨h, e⟩ | ⟨h, e, k⟩ | ⟨m, h, e, h1, h2, o, _⟩
  · rw [e]
    simp [h]
  · rw [e]
    simp only [true_iff, not_or]
    exact ⟨h, k n ht (Nat.le_refl _)⟩
  · rw [e]
    simp only [reduceCtorEq, false_iff]
    exact fun z => z (.inr (o.mono h2))
/-- without time doors a step is opened by the ticks so far -/
theorem opened_early (hd : ∀ d ∈ ds, 0 ≤ d.shift) (e : opened ds P ss n a b t = some m) : m ≤ t + 1 := by
  rcases opened_cases (ds := ds) (P := P) (ss := ss) (n := n) (a := a) (b := b) (t := t) with ⟨h, e'⟩ | ⟨h, e', k⟩ | ⟨m', h, e', h1, h2, o, k⟩
  · rw [e] at e'
    cases e'
    omega
  · rw [e] at e'
    cases e'
  · rw [e] at e'
    cases e'
    by_cases hm : m ≤ t + 1
    · exact hm
    · exfalso
      refine k (t + 1) (by omega) (by omega) ?_
      obtain ⟨s, q1, q2, q3, q4⟩ := o
      exact ⟨s, q1, q2, q3, fun x hx => (q4 x hx).early hd _ (by omega)⟩
end
/-! ### walks -/
/-- what walks press -/
def Prs (plates : List (List Nat)) (walks : List (List Nat)) (t r : Nat) : Prop := ∃ w ∈ walks, ∃ p, w[t]? = some p ∧ r ∈ plates.getD p []
/-- as many ticks as the longest walk has -/
def ticks (walks : List (List Nat)) : Nat := walks.foldl (fun m w => max m w.length) 0
theorem ticks_foldl : ∀ (l : List (List Nat)) (m : Nat), l.foldl (fun m w => max m w.length) m = max m (ticks l)
  | [], m => by simp [ticks]
  | w :: l, m => by
    unfold ticks
    rw [List.foldl_cons, List.foldl_cons, ticks_foldl l, ticks_foldl l (max 0 w.length)]
    omega
theorem ticks_cons (w : List Nat) (l : List (List Nat)) : ticks (w :: l) = max w.length (ticks l) := by
  show List.foldl _ _ _ = _
  rw [List.foldl_cons, ticks_foldl]
  omega
theorem le_ticks : ∀ {l : List (List Nat)} {w : List Nat}, w ∈ l → w.length ≤ ticks l
  | _ :: l, w, h => by
    rw [ticks_cons]
    rcases List.mem_cons.mp h with rfl | h
    · omega
    · have := le_ticks h
      omega
theorem ticks_le {B : Nat} : ∀ {l : List (List Nat)}, (∀ w ∈ l, w.length ≤ B) → ticks l ≤ B
  | [], _ => Nat.zero_le _
  | w :: l, h => by
    rw [ticks_cons]
    have h1 := h w (List.mem_cons_self ..)
    have h2 := ticks_le (l := l) fun v hv => h v (List.mem_cons_of_mem _ hv)
    omega
/-- a house without its rooms -/
structure Hs where
  rooms : Nat
  doors : List Dr
  plates : List (List Nat)
  steps : List Stp
noncomputable def Hs.opened (h : Hs) (walks : List (List Nat)) (w : List Nat) (t : Nat) : Option Nat :=
  K30.opened h.doors (Prs h.plates walks) h.steps (ticks walks) (w.getD t 0) (w.getD (t + 1) 0) t
/-- the debt of the walk i at the tick t, if there is one -/
def debt (i t : Nat) : Option Nat → Option (Nat × Nat × Nat)
  | some m => if t + 1 < m then some (i, t, m) else none
  | none => none
noncomputable def Hs.row (h : Hs) (walks : List (List Nat)) (i : Nat) (w : List Nat) (k : Nat) : List (Nat × Nat × Nat) := (List.range k).filterMap fun t => debt i t (h.opened walks w t)
noncomputable def Hs.debtsTo (h : Hs) (walks : List (List Nat)) (k : Nat) : List (Nat × Nat × Nat) := (List.range k).flatMap fun i => h.row walks i (walks.getD i []) ((walks.getD i []).length - 1)
noncomputable def Hs.debts (h : Hs) (walks : List (List Nat)) : List (Nat × Nat × Nat) := h.debtsTo walks walks.length
section
variable {h : Hs} {walks : List (List Nat)} {i k : Nat} {w : List Nat}
theorem row_zero : h.row walks i w 0 = [] := rfl
theorem row_succ : h.row walks i w (k + 1) = h.row walks i w k ++ (debt i k (h.opened walks w k)).toList := by
  unfold Hs.row
  rw [List.range_succ, List.filterMap_append]
  congr 1
theorem debtsTo_zero : h.debtsTo walks 0 = [] := rfl
theorem debtsTo_succ (e : walks[k]? = some w) : h.debtsTo walks (k + 1) = h.debtsTo walks k ++ h.row walks k w (w.length - 1) := by
  unfold Hs.debtsTo
  rw [List.range_succ, List.flatMap_append]
  congr 1
  rw [List.flatMap_cons, List.flatMap_nil, List.append_nil]
  have e' : walks.getD k [] = w := by rw [List.getD_eq_getElem?_getD, e]; rfl
  rw [e']
theorem debts_early (hd : ∀ d ∈ h.doors, 0 ≤ d.shift) : h.debts walks = [] := by
  have key : ∀ i w k, h.row walks i w k = [] := fun i w k => by
    unfold Hs.row
    rw [List.filterMap_eq_nil_iff]
    intro t _
    cases e : h.opened walks w t with
    | none => rfl
    | some m =>
      have := opened_early hd e
      show (if t + 1 < m then _ else _) = none
      rw [if_neg (by omega)]
  unfold Hs.debts Hs.debtsTo
  rw [List.flatMap_eq_nil_iff]
  intro x _
  exact key _ _ _
end
end K30

/-! #### Mask -/
namespace K30
/-! masks -/
def maskOf (l : List Nat) : Nat := (l.map fun r => 2 ^ r).sum
theorem maskOf_cons (r : Nat) (l : List Nat) : maskOf (r :: l) = 2 ^ r + maskOf l := by simp [maskOf]
theorem maskOf_dvd : ∀ {l : List Nat} {k : Nat}, (∀ x ∈ l, k ≤ x) → 2 ^ k ∣ maskOf l
  | [], k, _ => ⟨0, by simp [maskOf]⟩
  | r :: l, k, h => by
    rw [maskOf_cons]
    refine Nat.dvd_add (Nat.pow_dvd_pow 2 (h r (List.mem_cons_self ..))) (maskOf_dvd fun x hx => h x (List.mem_cons_of_mem _ hx))
theorem testBit_maskOf : ∀ {l : List Nat}, l.Pairwise (· < ·) → ∀ r, (maskOf l).testBit r = decide (r ∈ l)
  | [], _, r => by simp [maskOf]
  | a :: l, h, r => by
    rw [List.pairwise_cons] at h
    obtain ⟨k, hk⟩ := maskOf_dvd (l := l) (k := a + 1) fun x hx => h.1 x hx
    have ih := testBit_maskOf h.2 r
    rw [maskOf_cons, Nat.add_comm, hk, Nat.two_pow_add_eq_or_of_lt (Nat.pow_lt_pow_right (by omega) (by omega)), ← hk, Nat.testBit_or, ih, Nat.testBit_two_pow]
    by_cases e : a = r
    · subst e
      simp
    · have e' : ¬ r = a := fun z => e z.symm
      simp [e, e']
theorem maskOf_lt {l : List Nat} (h : l.Pairwise (· < ·)) {R : Nat} (hr : ∀ x ∈ l, x < R) : maskOf l < 2 ^ R :=
  Nat.lt_pow_two_of_testBit _ fun i hi => by
    rw [testBit_maskOf h]
    simp only [decide_eq_false_iff_not]
    exact fun z => by have := hr i z; omega
/-- all of them are in the mask -/
def inMask (l : List Nat) (m : Nat) : Prop := ∀ x ∈ l, m.testBit x = true
theorem and_eq_iff {l : List Nat} (h : l.Pairwise (· < ·)) (m : Nat) : maskOf l &&& m = maskOf l ↔ inMask l m := by
  constructor
  · intro e x hx
    have q : (maskOf l &&& m).testBit x = (maskOf l).testBit x := by rw [e]
    rw [Nat.testBit_and, testBit_maskOf h] at q
    simpa [hx] using q
  · intro k
    refine Nat.eq_of_testBit_eq fun x => ?_
    rw [Nat.testBit_and, testBit_maskOf h]
    by_cases hx : x ∈ l
    · simp [hx, k x hx]
    · simp [hx]
instance (l : List Nat) (m : Nat) : Decidable (inMask l m) := by unfold inMask; infer_instance
/-! what doors send -/
def sentStep (m : Nat) (s : Int) (acc : Nat) (d : Dr) : Nat := if d.shift = s ∧ inMask d.needs m then acc ||| 2 ^ d.room else acc
def sentFrom (ds : List Dr) (m : Nat) (s : Int) : Nat := ds.foldl (sentStep m s) 0
theorem testBit_sentStep {m : Nat} {s : Int} {acc r : Nat} {d : Dr} : (sentStep m s acc d).testBit r = true ↔ acc.testBit r = true ∨ (d.shift = s ∧ inMask d.needs m ∧ d.room = r) := by
  unfold sentStep
  split
  · rename_i h
    rw [Nat.testBit_or, Nat.testBit_two_pow, Bool.or_eq_true, decide_eq_true_eq]
    simp [h.1, h.2]
  · rename_i h
    constructor
    · exact .inl
    · rintro (z | ⟨a, b, _⟩)
      · exact z
      · exact absurd ⟨a, b⟩ h
theorem testBit_sentFold {m : Nat} {s : Int} {r : Nat} : ∀ {ds : List Dr} {acc : Nat}, (ds.foldl (sentStep m s) acc).testBit r = true ↔ acc.testBit r = true ∨ ∃ d ∈ ds, d.shift = s ∧ inMask d.needs m ∧ d.room = r
  | [], acc => by simp
  | d :: ds, acc => by
    rw [List.foldl_cons, testBit_sentFold, testBit_sentStep]
    simp only [List.mem_cons, exists_eq_or_imp]
    rw [or_assoc]
theorem testBit_sentFrom {m : Nat} {s : Int} {r : Nat} {ds : List Dr} : (sentFrom ds m s).testBit r = true ↔ ∃ d ∈ ds, d.shift = s ∧ inMask d.needs m ∧ d.room = r := by
  unfold sentFrom
  rw [testBit_sentFold]
  simp
/-! closing one tick -/
/-- c is closed under the doors of shift 0, has m, and is in all that is so -/
structure Closed (ds : List Dr) (m c : Nat) : Prop where
  has : ∀ r, m.testBit r = true → c.testBit r = true
  cl : ∀ d ∈ ds, d.shift = 0 → inMask d.needs c → c.testBit d.room = true
  least : ∀ S : Nat → Prop, (∀ r, m.testBit r = true → S r) → (∀ d ∈ ds, d.shift = 0 → (∀ x ∈ d.needs, S x) → S d.room) → ∀ r, c.testBit r = true → S r
/-- on the way there -/
structure Closing (ds : List Dr) (m c : Nat) : Prop where
  has : ∀ r, m.testBit r = true → c.testBit r = true
  least : ∀ S : Nat → Prop, (∀ r, m.testBit r = true → S r) → (∀ d ∈ ds, d.shift = 0 → (∀ x ∈ d.needs, S x) → S d.room) → ∀ r, c.testBit r = true → S r
theorem Closing.start {ds : List Dr} {m : Nat} : Closing ds m m := ⟨fun _ h => h, fun S h _ => h⟩
theorem Closing.step {ds : List Dr} {m c : Nat} (h : Closing ds m c) : Closing ds m (c ||| sentFrom ds c 0) := by
  refine ⟨fun r hr => ?_, fun S h1 h2 r hr => ?_⟩
  · rw [Nat.testBit_or, h.has r hr]
    rfl
  · rw [Nat.testBit_or, Bool.or_eq_true, testBit_sentFrom] at hr
    rcases hr with hr | ⟨d, hd, e, hn, rfl⟩
    · exact h.least S h1 h2 r hr
    · exact h2 d hd e fun x hx => h.least S h1 h2 x (hn x hx)
theorem Closing.done {ds : List Dr} {m c : Nat} (h : Closing ds m c) (e : c ||| sentFrom ds c 0 = c) : Closed ds m c := by
  refine ⟨h.has, fun d hd e0 hn => ?_, h.least⟩
  rw [← e, Nat.testBit_or, Bool.or_eq_true]
  exact .inr (testBit_sentFrom.mpr ⟨d, hd, e0, hn, rfl⟩)
theorem bit_lt {m R : Nat} (h : m < 2 ^ R) {r : Nat} (hr : m.testBit r = true) : r < R := by
  by_cases hx : r < R
  · exact hx
  · have := Nat.testBit_lt_two_pow (x := m) (i := r) (Nat.lt_of_lt_of_le h (Nat.pow_le_pow_right (by omega) (by omega)))
    rw [this] at hr
    cases hr
theorem lt_of_bits {m R : Nat} (h : ∀ r, m.testBit r = true → r < R) : m < 2 ^ R := Nat.lt_pow_two_of_testBit _ fun i hi => by
  cases e : m.testBit i with
  | false => rfl
  | true => have := h i e; omega
theorem Closing.lt {ds : List Dr} {m c R : Nat} (h : Closing ds m c) (hm : m < 2 ^ R) (hd : ∀ d ∈ ds, d.room < R) : c < 2 ^ R :=
  lt_of_bits fun r hr => h.least (fun r => r < R) (fun r hr => bit_lt hm hr) (fun d h _ _ => hd d h) r hr
theorem Closed.closing {ds : List Dr} {m c : Nat} (h : Closed ds m c) : Closing ds m c := ⟨h.has, h.least⟩
/-! light by masks -/
def Pm (ms : List Nat) (t r : Nat) : Prop := (ms.getD t 0).testBit r = true
/-- L is the light of the presses ms -/
structure IsLight (ds : List Dr) (ms L : List Nat) : Prop where
  len : L.length = ms.length
  bit : ∀ t r, (L.getD t 0).testBit r = true ↔ Lit ds (Pm ms) ms.length t r
/-- some lights that are sound -/
structure Sound (ds : List Dr) (ms L : List Nat) : Prop where
  len : L.length = ms.length
  has : ∀ t r, (ms.getD t 0).testBit r = true → (L.getD t 0).testBit r = true
  lit : ∀ t r, (L.getD t 0).testBit r = true → Lit ds (Pm ms) ms.length t r
theorem getD_bit_lt {L : List Nat} {t r : Nat} (h : (L.getD t 0).testBit r = true) : t < L.length := by
  by_cases q : t < L.length
  · exact q
  · rw [List.getD_eq_getElem?_getD, List.getElem?_eq_none (by omega)] at h
    simp at h
theorem Sound.start {ds : List Dr} {ms : List Nat} : Sound ds ms ms := ⟨rfl, fun _ _ h => h, fun t r h => .press (getD_bit_lt h) h⟩
/-- the next round, from the closed one C -/
structure NextRound (ds : List Dr) (L C L2 : List Nat) : Prop where
  lenC : C.length = L.length
  clo : ∀ t, t < L.length → Closed ds (L.getD t 0) (C.getD t 0)
  len : L2.length = L.length
  bit : ∀ t, t < L.length → L2.getD t 0 = C.getD t 0 ||| (if t = 0 then 0 else sentFrom ds (C.getD (t - 1) 0) 1) ||| (if t + 1 < L.length then sentFrom ds (C.getD (t + 1) 0) (-1) else 0)
theorem NextRound.mono {ds : List Dr} {L C L2 : List Nat} (h : NextRound ds L C L2) {t r : Nat} (hr : (L.getD t 0).testBit r = true) : (C.getD t 0).testBit r = true ∧ (L2.getD t 0).testBit r = true := by
  have ht := getD_bit_lt hr
  have h1 := (h.clo t ht).has r hr
  refine ⟨h1, ?_⟩
  rw [h.bit t ht, Nat.testBit_or, Nat.testBit_or, h1]
  rfl
theorem NextRound.sound {ds : List Dr} {ms L C L2 : List Nat} (h : NextRound ds L C L2) (s : Sound ds ms L) : Sound ds ms L2 := by
  have hC : ∀ t r, (C.getD t 0).testBit r = true → Lit ds (Pm ms) ms.length t r := fun t r hr => by
    have ht : t < L.length := h.lenC ▸ getD_bit_lt hr
    refine (h.clo t ht).least (fun r => Lit ds (Pm ms) ms.length t r) (fun r hr => s.lit t r hr) (fun d hd e hn => ?_) r hr
    exact .door hd (by rw [← s.len]; exact ht) (by rw [← s.len]; exact ht) (by omega) hn
  refine ⟨h.len.trans s.len, fun t r hr => (h.mono (s.has t r hr)).2, fun t r hr => ?_⟩
  have ht : t < L.length := h.len ▸ getD_bit_lt hr
  have hn : L.length = ms.length := s.len
  rw [h.bit t ht, Nat.testBit_or, Nat.testBit_or, Bool.or_eq_true, Bool.or_eq_true] at hr
  rcases hr with (hr | hr) | hr
  · exact hC t r hr
  · split at hr
    · simp at hr
    · rename_i h0
      rw [testBit_sentFrom] at hr
      obtain ⟨d, hd, e, hx, rfl⟩ := hr
      exact .door (t := t - 1) hd (by omega) (by omega) (by omega) fun x hx' => hC _ _ (hx x hx')
  · split at hr
    · rename_i h0
      rw [testBit_sentFrom] at hr
      obtain ⟨d, hd, e, hx, rfl⟩ := hr
      exact .door (t := t + 1) hd (by omega) (by omega) (by omega) fun x hx' => hC _ _ (hx x hx')
    · simp at hr
theorem getD_ext {L M : List Nat} (h : L.length = M.length) (e : ∀ t, t < L.length → L.getD t 0 = M.getD t 0) : L = M := by
  refine List.ext_getElem h fun i h1 h2 => ?_
  have := e i h1
  rwa [List.getD_eq_getElem?_getD, List.getD_eq_getElem?_getD, List.getElem?_eq_getElem h1, List.getElem?_eq_getElem h2] at this
/-- where a round changes nothing all is told -/
theorem NextRound.done {ds : List Dr} {ms L C : List Nat} (hs : ∀ d ∈ ds, d.shift = -1 ∨ d.shift = 0 ∨ d.shift = 1) (h : NextRound ds L C L) (s : Sound ds ms L) : IsLight ds ms L := by
  have eC : ∀ t r, (C.getD t 0).testBit r = true → (L.getD t 0).testBit r = true := fun t r hr => by
    have ht : t < L.length := h.lenC ▸ getD_bit_lt hr
    rw [h.bit t ht, Nat.testBit_or, Nat.testBit_or, hr]
    rfl
  refine ⟨s.len, fun t r => ⟨s.lit t r, fun q => ?_⟩⟩
  refine Lit.least (S := fun t r => (L.getD t 0).testBit r = true) (fun t r _ hp => s.has t r hp) (fun d hd t u ht hu e hx => ?_) q
  have ht' : t < L.length := by rw [s.len]; exact ht
  have hu' : u < L.length := by rw [s.len]; exact hu
  have hxC : inMask d.needs (C.getD t 0) := fun x hx' => (h.mono (hx x hx')).1
  rcases hs d hd with e1 | e1 | e1
  · have et : t = u + 1 := by omega
    rw [h.bit u hu', Nat.testBit_or, Nat.testBit_or, if_pos (show u + 1 < L.length by omega), testBit_sentFrom.mpr ⟨d, hd, e1, et ▸ hxC, rfl⟩]
    simp
  · have et : t = u := by omega
    rw [et] at hxC
    exact eC u _ ((h.clo u hu').cl d hd e1 hxC)
  · have et : u - 1 = t := by omega
    rw [h.bit u hu', Nat.testBit_or, Nat.testBit_or, if_neg (show ¬ u = 0 by omega), testBit_sentFrom.mpr ⟨d, hd, e1, et ▸ hxC, rfl⟩]
    simp
/-- how much is still dark, at most -/
def darkOf (R : Nat) (L : List Nat) : Nat := L.length * 2 ^ R - L.sum
theorem sum_le_of {B : Nat} : ∀ {L : List Nat}, (∀ x ∈ L, x ≤ B) → L.sum ≤ L.length * B
  | [], _ => by simp
  | x :: L, h => by
    have h1 := h x (List.mem_cons_self ..)
    have h2 := sum_le_of (L := L) fun y hy => h y (List.mem_cons_of_mem _ hy)
    rw [List.sum_cons, List.length_cons, Nat.succ_mul]
    omega
theorem sum_lt_of : ∀ {L M : List Nat}, L.length = M.length → (∀ t, t < L.length → L.getD t 0 ≤ M.getD t 0) → L ≠ M → L.sum < M.sum
  | [], [], _, _, h => absurd rfl h
  | [], _ :: _, h, _, _ => by simp at h
  | _ :: _, [], h, _, _ => by simp at h
  | x :: L, y :: M, h, k, ne => by
    have k0 : x ≤ y := by simpa using k 0 (by simp)
    have ks : ∀ t, t < L.length → L.getD t 0 ≤ M.getD t 0 := fun t ht => by simpa using k (t + 1) (by simpa using ht)
    have hl : L.length = M.length := by simpa using h
    rw [List.sum_cons, List.sum_cons]
    by_cases e : L = M
    · subst e
      have : x ≠ y := fun z => ne (by rw [z])
      omega
    · have := sum_lt_of hl ks e
      omega
theorem le_of_bits {a b : Nat} (h : ∀ r, a.testBit r = true → b.testBit r = true) : a ≤ b := by
  have e : b = a ||| b := Nat.eq_of_testBit_eq fun r => by
    rw [Nat.testBit_or]
    cases q : a.testBit r with
    | false => rfl
    | true => rw [h r q]; rfl
  rw [e]
  exact Nat.left_le_or
theorem Sound.lt {ds : List Dr} {ms L : List Nat} {R : Nat} (s : Sound ds ms L) (hm : ∀ x ∈ ms, x < 2 ^ R) (hd : ∀ d ∈ ds, d.room < R) : ∀ x ∈ L, x < 2 ^ R := fun x hx => by
  obtain ⟨i, hi, rfl⟩ := List.mem_iff_getElem.mp hx
  refine lt_of_bits fun r hr => ?_
  have q : (L.getD i 0).testBit r = true := by rw [List.getD_eq_getElem?_getD, List.getElem?_eq_getElem hi]; exact hr
  refine Lit.room (R := R) (fun t r ht hp => ?_) hd (s.lit i r q)
  have ht' : ms.getD t 0 = ms[t] := by rw [List.getD_eq_getElem?_getD, List.getElem?_eq_getElem ht]; rfl
  have hp' : (ms.getD t 0).testBit r = true := hp
  rw [ht'] at hp'
  exact bit_lt (hm _ (List.getElem_mem ht)) hp'
theorem NextRound.less {ds : List Dr} {ms L C L2 : List Nat} {R : Nat} (h : NextRound ds L C L2) (s : Sound ds ms L) (hm : ∀ x ∈ ms, x < 2 ^ R) (hd : ∀ d ∈ ds, d.room < R) (ne : L2 ≠ L) : darkOf R L2 < darkOf R L := by
  have h1 := sum_lt_of h.len.symm (fun t ht => le_of_bits fun r hr => (h.mono hr).2) ne.symm
  have h2 := sum_le_of (L := L2) (B := 2 ^ R) fun x hx => Nat.le_of_lt ((h.sound s).lt hm hd x hx)
  unfold darkOf
  rw [h.len] at h2 ⊢
  omega
end K30

/-! #### Lists -/
namespace K30
/-! light by lists of rooms: the law's own -/
/-- rooms lit at t -/
def InL (L : List (List Nat)) (t r : Nat) : Prop := r ∈ L.getD t []
theorem InL.lt {L : List (List Nat)} {t r : Nat} (h : InL L t r) : t < L.length := by
  unfold InL at h
  by_cases q : t < L.length
  · exact q
  · rw [List.getD_eq_getElem?_getD, List.getElem?_eq_none (by omega)] at h
    simp at h
/-- lists that are sound: each room once, below R -/
structure SoundL (ds : List Dr) (ps L : List (List Nat)) : Prop where
  len : L.length = ps.length
  has : ∀ t r, InL ps t r → InL L t r
  lit : ∀ t r, InL L t r → Lit ds (InL ps) ps.length t r
  nd : ∀ l ∈ L, l.Nodup
theorem SoundL.start {ds : List Dr} {ps : List (List Nat)} (h : ∀ l ∈ ps, l.Nodup) : SoundL ds ps ps := ⟨rfl, fun _ _ h => h, fun t r h => .press h.lt h, h⟩
theorem inL_set {L : List (List Nat)} {u t x : Nat} {l : List Nat} (hu : u < L.length) : InL (L.set u l) t x ↔ (if t = u then x ∈ l else InL L t x) := by
  unfold InL
  rw [List.getD_eq_getElem?_getD, List.getD_eq_getElem?_getD, List.getElem?_set]
  by_cases e : u = t
  · subst e
    simp [hu]
  · have e' : ¬ t = u := fun z => e z.symm
    simp [e, e']
/-- one door that is open lights its room -/
theorem SoundL.add {ds : List Dr} {ps L : List (List Nat)} {d : Dr} {t u : Nat} {l : List Nat} (s : SoundL ds ps L) (hd : d ∈ ds) (ht : t < L.length) (hu : u < L.length) (e : (u : Int) = (t : Int) + d.shift)
    (hn : ∀ x ∈ d.needs, InL L t x) (hr : ¬ InL L u d.room) (hl : l.Perm (L.getD u [] ++ [d.room])) : SoundL ds ps (L.set u l) := by
  have hm : ∀ x, x ∈ l ↔ InL L u x ∨ x = d.room := fun x => by
    rw [hl.mem_iff, List.mem_append, List.mem_singleton]
    rfl
  refine ⟨by rw [List.length_set]; exact s.len, fun t' r h => ?_, fun t' r h => ?_, fun l' hl' => ?_⟩
  · rw [inL_set hu]
    split
    · rename_i e'
      rw [e'] at h
      exact (hm r).mpr (.inl (s.has u r h))
    · exact s.has t' r h
  · rw [inL_set hu] at h
    split at h
    · rename_i e'
      rcases (hm r).mp h with h | rfl
      · rw [e']
        exact s.lit u r h
      · rw [e']
        exact .door hd (s.len ▸ ht) (s.len ▸ hu) e fun x hx => s.lit t x (hn x hx)
    · exact s.lit t' r h
  · rcases List.mem_or_eq_of_mem_set hl' with h | rfl
    · exact s.nd l' h
    · rw [hl.nodup_iff, List.nodup_append]
      refine ⟨?_, by simp, fun a ha b hb => ?_⟩
      · have : L.getD u [] = L[u] := by rw [List.getD_eq_getElem?_getD, List.getElem?_eq_getElem hu]; rfl
        rw [this]
        exact s.nd _ (List.getElem_mem hu)
      · rw [List.mem_singleton] at hb
        subst hb
        exact fun z => hr (z ▸ ha)
/-- how many are lit -/
def total (L : List (List Nat)) : Nat := (L.map List.length).sum
theorem total_set : ∀ {L : List (List Nat)} {u : Nat} {l : List Nat}, u < L.length → l.length = (L.getD u []).length + 1 → total (L.set u l) = total L + 1
  | [], _, _, h, _ => by simp at h
  | a :: L, 0, l, _, h => by
    simp only [List.getD_cons_zero] at h
    simp only [total, List.set_cons_zero, List.map_cons, List.sum_cons, h]
    omega
  | a :: L, u + 1, l, hu, h => by
    have ih := total_set (L := L) (u := u) (l := l) (by simpa using hu) (by simpa using h)
    simp only [total, List.set_cons_succ, List.map_cons, List.sum_cons] at ih ⊢
    omega
theorem total_le {R : Nat} : ∀ {L : List (List Nat)}, (∀ l ∈ L, l.length ≤ R) → total L ≤ L.length * R
  | [], _ => by simp [total]
  | a :: L, h => by
    have h1 := h a (List.mem_cons_self ..)
    have ih := total_le (L := L) fun l hl => h l (List.mem_cons_of_mem _ hl)
    simp only [total, List.map_cons, List.sum_cons, List.length_cons, Nat.succ_mul] at ih ⊢
    omega
theorem nodup_length_le {R : Nat} {l : List Nat} (h : l.Nodup) (hr : ∀ x ∈ l, x < R) : l.length ≤ R := by
  have hs : l ⊆ List.range R := fun x hx => List.mem_range.mpr (hr x hx)
  have := h.length_le_of_subset hs
  rwa [List.length_range] at this
theorem SoundL.total_le {ds : List Dr} {ps L : List (List Nat)} {R : Nat} (s : SoundL ds ps L) (hp : ∀ l ∈ ps, ∀ x ∈ l, x < R) (hd : ∀ d ∈ ds, d.room < R) : total L ≤ ps.length * R := by
  rw [← s.len]
  refine K30.total_le fun l hl => nodup_length_le (s.nd l hl) fun x hx => ?_
  obtain ⟨i, hi, rfl⟩ := List.mem_iff_getElem.mp hl
  have q : InL L i x := by unfold InL; rw [List.getD_eq_getElem?_getD, List.getElem?_eq_getElem hi]; exact hx
  refine Lit.room (R := R) (fun t r ht hpr => ?_) hd (s.lit i x q)
  have e : ps.getD t [] = ps[t] := by rw [List.getD_eq_getElem?_getD, List.getElem?_eq_getElem ht]; rfl
  unfold InL at hpr
  rw [e] at hpr
  exact hp _ (List.getElem_mem ht) r hpr
/-- the door d at the tick t is kept -/
def Kept (L : List (List Nat)) (t : Nat) (d : Dr) : Prop := ∀ u : Nat, u < L.length → (u : Int) = (t : Int) + d.shift → (∀ x ∈ d.needs, InL L t x) → InL L u d.room
/-- where all doors are kept all is told -/
theorem SoundL.done {ds : List Dr} {ps L : List (List Nat)} (s : SoundL ds ps L) (h : ∀ t, t < L.length → ∀ d ∈ ds, Kept L t d) (t r : Nat) : InL L t r ↔ Lit ds (InL ps) ps.length t r := by
  refine ⟨s.lit t r, fun q => ?_⟩
  refine Lit.least (S := InL L) (fun t r _ hp => s.has t r hp) (fun d hd t u ht hu e hx => ?_) q
  exact h t (s.len ▸ ht) d hd u (s.len ▸ hu) e hx
/-! computing, for written houses -/
def roundC (ds : List Dr) (n : Nat) (S : List (Nat × Nat)) : List (Nat × Nat) :=
  S ++ (List.range n).flatMap fun (t : Nat) => ds.flatMap fun d => if 0 ≤ (t : Int) + d.shift ∧ (t : Int) + d.shift < n ∧ (∀ x ∈ d.needs, ((t, x) : Nat × Nat) ∈ S) then [(((t : Int) + d.shift).toNat, d.room)] else []
def goC (ds : List Dr) (n : Nat) : Nat → List (Nat × Nat) → List (Nat × Nat)
  | 0, S => S
  | k + 1, S => goC ds n k (roundC ds n S)
def closedC (ds : List Dr) (n : Nat) (S : List (Nat × Nat)) : Bool := (roundC ds n S).all fun s => decide (s ∈ S)
def startC (ps : List (List Nat)) (n : Nat) : List (Nat × Nat) := (List.range n).flatMap fun t => (ps.getD t []).map fun r => (t, r)
theorem startC_mem {ps : List (List Nat)} {n t r : Nat} : (t, r) ∈ startC ps n ↔ t < n ∧ InL ps t r := by
  unfold startC InL
  simp only [List.mem_flatMap, List.mem_range, List.mem_map, Prod.mk.injEq]
  constructor
  · rintro ⟨a, h1, b, h2, rfl, rfl⟩
    exact ⟨h1, h2⟩
  · rintro ⟨h1, h2⟩
    exact ⟨t, h1, r, h2, rfl, rfl⟩
theorem roundC_mem {ds : List Dr} {n : Nat} {S : List (Nat × Nat)} {u r : Nat} : (u, r) ∈ roundC ds n S ↔ (u, r) ∈ S ∨ ∃ t : Nat, t < n ∧ ∃ d ∈ ds, u < n ∧ (u : Int) = (t : Int) + d.shift ∧ (∀ x ∈ d.needs, (t, x) ∈ S) ∧ r = d.room := by
  unfold roundC
  simp only [List.mem_append, List.mem_flatMap, List.mem_range]
  refine or_congr Iff.rfl ⟨?_, ?_⟩
  · rintro ⟨t, h1, d, h2, h3⟩
    split at h3
    · rename_i hc
      rw [List.mem_singleton, Prod.mk.injEq] at h3
      exact ⟨t, h1, d, h2, by omega, by omega, hc.2.2, h3.2⟩
    · simp at h3
  · rintro ⟨t, h1, d, h2, h3, h4, h5, rfl⟩
    refine ⟨t, h1, d, h2, ?_⟩
    rw [if_pos ⟨by omega, by omega, h5⟩, List.mem_singleton, Prod.mk.injEq]
    exact ⟨by omega, rfl⟩
theorem goC_sound {ds : List Dr} {P : Nat → Nat → Prop} {n : Nat} : ∀ (k : Nat) (S : List (Nat × Nat)), (∀ t r, (t, r) ∈ S → Lit ds P n t r) → ∀ t r, (t, r) ∈ goC ds n k S → Lit ds P n t r
  | 0, _, h => h
  | k + 1, S, h => by
    refine goC_sound k (roundC ds n S) fun u r hm => ?_
    rw [roundC_mem] at hm
    rcases hm with hm | ⟨t, h1, d, h2, h3, h4, h5, rfl⟩
    · exact h u r hm
    · exact .door h2 h1 h3 h4 fun x hx => h t x (h5 x hx)
theorem goC_has {ds : List Dr} {n : Nat} : ∀ (k : Nat) (S : List (Nat × Nat)) (s : Nat × Nat), s ∈ S → s ∈ goC ds n k S
  | 0, _, _, h => h
  | k + 1, S, s, h => goC_has k _ s (by unfold roundC; exact List.mem_append_left _ h)
theorem goC_lit {ds : List Dr} {ps : List (List Nat)} {n k : Nat} (hc : closedC ds n (goC ds n k (startC ps n)) = true) (t r : Nat) : Lit ds (InL ps) n t r ↔ (t, r) ∈ goC ds n k (startC ps n) := by
  constructor
  · refine Lit.least (S := fun t r => (t, r) ∈ goC ds n k (startC ps n)) (fun t r h1 h2 => goC_has k _ _ (startC_mem.mpr ⟨h1, h2⟩)) fun d hd t u ht hu e hx => ?_
    have h1 := List.all_eq_true.mp hc (u, d.room) (roundC_mem.mpr (.inr ⟨t, ht, d, hd, hu, e, hx, rfl⟩))
    exact of_decide_eq_true h1
  · exact goC_sound k _ (fun t r h => .press (startC_mem.mp h).1 (startC_mem.mp h).2) t r
/-- presses as lists, of walks -/
def pressL (plates walks : List (List Nat)) (n : Nat) : List (List Nat) := (List.range n).map fun t => walks.flatMap fun w => match w[t]? with
  | some p => plates.getD p []
  | none => []
theorem pressL_in {plates walks : List (List Nat)} {n t r : Nat} (ht : t < n) : InL (pressL plates walks n) t r ↔ Prs plates walks t r := by
  unfold InL pressL Prs
  rw [List.getD_eq_getElem?_getD, List.getElem?_map, List.getElem?_range ht]
  simp only [Option.map_some, Option.getD_some, List.mem_flatMap]
  constructor
  · rintro ⟨w, hw, h⟩
    cases e : w[t]? with
    | none => rw [e] at h; simp at h
    | some p => rw [e] at h; exact ⟨w, hw, p, e, h⟩
  · rintro ⟨w, hw, p, e, h⟩
    refine ⟨w, hw, ?_⟩
    rw [e]
    exact h
def litC (h : Hs) (walks : List (List Nat)) (m : Nat) : List (Nat × Nat) := goC h.doors m 12 (startC (pressL h.plates walks m) m)
def opensC (h : Hs) (walks : List (List Nat)) (a b t m : Nat) : Bool := h.steps.any fun s => s.place == a && s.goal == b && s.needs.all fun x => decide ((t, x) ∈ litC h walks m)
def openedC (h : Hs) (walks : List (List Nat)) (n a b t : Nat) : Option Nat := if a = b then some 0 else (List.range' (t + 1) (n - t)).find? fun m => opensC h walks a b t m
def okC (h : Hs) (walks : List (List Nat)) (n : Nat) : Bool := (List.range (n + 1)).all fun m => closedC h.doors m (litC h walks m)
theorem opensC_iff {h : Hs} {walks : List (List Nat)} {n a b t m : Nat} (ok : okC h walks n = true) (hm : m ≤ n) : opensC h walks a b t m = true ↔ Opens h.doors (Prs h.plates walks) h.steps a b t m := by
  have hc : closedC h.doors m (litC h walks m) = true := List.all_eq_true.mp ok m (List.mem_range.mpr (by omega))
  have hl : ∀ t x, (t, x) ∈ litC h walks m ↔ Lit h.doors (Prs h.plates walks) m t x := fun t x => by
    rw [← Lit.congr (P := InL (pressL h.plates walks m)) fun t r ht => pressL_in ht]
    exact (goC_lit hc t x).symm
  unfold opensC Opens
  simp only [List.any_eq_true, Bool.and_eq_true, beq_iff_eq, List.all_eq_true, decide_eq_true_eq, hl, and_assoc]
theorem openedC_eq {h : Hs} {walks : List (List Nat)} {n a b t : Nat} (ok : okC h walks n = true) : opened h.doors (Prs h.plates walks) h.steps n a b t = openedC h walks n a b t := by
  unfold opened openedC
  split
  · rfl
  · have hm : ∀ m ∈ List.range' (t + 1) (n - t), m ≤ n := fun m hm => by
      rw [List.mem_range'_1] at hm
      omega
    generalize List.range' (t + 1) (n - t) = l at hm
    induction l with
    | nil => rfl
    | cons m l ih =>
      rw [List.find?_cons, List.find?_cons, ih fun k hk => hm k (List.mem_cons_of_mem _ hk)]
      have e := opensC_iff (a := a) (b := b) (t := t) ok (hm m (List.mem_cons_self ..))
      cases q : opensC h walks a b t m with
      | true => simp [e.mp q]
      | false =>
        have : ¬ Opens h.doors (Prs h.plates walks) h.steps a b t m := fun z => by rw [e.mpr z] at q; cases q
        simp [this]
def rowC (h : Hs) (walks : List (List Nat)) (i : Nat) (w : List Nat) : List (Nat × Nat × Nat) := (List.range (w.length - 1)).filterMap fun t => debt i t (openedC h walks (ticks walks) (w.getD t 0) (w.getD (t + 1) 0) t)
def debtsC (h : Hs) (walks : List (List Nat)) : List (Nat × Nat × Nat) := (List.range walks.length).flatMap fun i => rowC h walks i (walks.getD i [])
theorem debtsC_eq {h : Hs} {walks : List (List Nat)} (ok : okC h walks (ticks walks) = true) : h.debts walks = debtsC h walks := by
  unfold Hs.debts Hs.debtsTo debtsC rowC Hs.row Hs.opened
  simp only [openedC_eq ok]
theorem openedC_w {h : Hs} {walks : List (List Nat)} {w : List Nat} {t : Nat} (ok : okC h walks (ticks walks) = true) : h.opened walks w t = openedC h walks (ticks walks) (w.getD t 0) (w.getD (t + 1) 0) t := openedC_eq ok
/-- the law's two houses -/
def back : Hs := ⟨2, [⟨[0], 1, -1⟩], [[], [0]], [⟨0, 1, [1]⟩, ⟨1, 0, []⟩]⟩
def late : Hs := ⟨3, [⟨[0], 1, -1⟩, ⟨[1], 2, -1⟩], [[], [], [0]], [⟨0, 1, [2]⟩, ⟨1, 2, []⟩]⟩
theorem law1 : back.opened [[0, 1]] [0, 1] 0 = some 2 := (openedC_w (by decide +kernel)).trans (by decide +kernel)
theorem law2 : back.debts [[0, 1]] = [(0, 0, 2)] := (debtsC_eq (by decide +kernel)).trans (by decide +kernel)
theorem law3 : back.opened [[0, 0]] [0, 0] 0 = some 0 := (openedC_w (by decide +kernel)).trans (by decide +kernel)
theorem law4 : back.debts [] = [] := (debtsC_eq (by decide +kernel)).trans (by decide +kernel)
theorem law5 : back.opened [[0, 1, 1], [0, 0, 1]] [0, 0, 1] 1 = some 3 := (openedC_w (by decide +kernel)).trans (by decide +kernel)
theorem law6 : back.opened [[1, 0]] [1, 0] 0 = some 1 := (openedC_w (by decide +kernel)).trans (by decide +kernel)
theorem law7 : back.debts [[1, 0]] = [] := (debtsC_eq (by decide +kernel)).trans (by decide +kernel)
theorem law8 : back.debts [[0, 0, 1], [0, 1]] = [(0, 1, 3), (1, 0, 2)] := (debtsC_eq (by decide +kernel)).trans (by decide +kernel)
theorem law9 : late.opened [[0, 1], [1, 1, 2]] [0, 1] 0 = some 3 := (openedC_w (by decide +kernel)).trans (by decide +kernel)
theorem law10 : late.debts [[0, 1], [1, 1, 2]] = [(0, 0, 3)] := (debtsC_eq (by decide +kernel)).trans (by decide +kernel)
theorem law11 : late.debts [[0, 1], [1, 1, 1, 1, 2]] = [] := (debtsC_eq (by decide +kernel)).trans (by decide +kernel)
end K30

/-! #### Rules -/
namespace K30
open PySem PySem.Spec PyProof.Rows L2
/-! rules of the hand layer that lacked: zip of three lists, sorted of lists of ints, repr of data, calls by keywords alone -/
/-! ### zip of three lists -/
def Itz3 (K : PySem.W.Frag) (a b c : Addr) : It :=
  ⟨fun i H => ∃ (xs ys zs : List V) (x y z : V), SqL K H a xs ∧ SqL K H b ys ∧ SqL K H c zs ∧ xs[i]? = some x ∧ ys[i]? = some y ∧ zs[i]? = some z,
    fun i H v H' => ∃ T x y z, v = .ref T ∧ H T = none ∧ H' = upd H T (.tup [x, y, z]) ∧ (∀ xs, SqL K H a xs → xs[i]? = some x) ∧ (∀ ys, SqL K H b ys → ys[i]? = some y) ∧ ∀ zs, SqL K H c zs → zs[i]? = some z,
    fun i H => ∃ n, i = n ∧ ∃ xs ys zs : List V, SqL K H a xs ∧ SqL K H b ys ∧ SqL K H c zs ∧ xs.length = n ∧ ys.length = n ∧ zs.length = n⟩
theorem turn_zip3 {P : Program} {w : World} {K : PySem.W.Frag} {elts : List Expr} {kk : Nat} {tpos : Pos} {a b c z TI TO i1 i2 i3 : Addr} (D : ZipSep3 z TI TO i1 i2 i3 [i1, a] [i2, b] [i3, c]) (TIa : TI ≠ a) (h1a : a ≠ i1) (h2b : b ≠ i2) (h3c : c ≠ i3) :
    Turn P w K (.Tuple elts kk tpos) (Itz3 K a b c) [z, TI, TO, i1, i2, i3] z (fun i h => IsZip h z TI TO .none ∧ IsTupOf3 h TI (.ref i1) (.ref i2) (.ref i3) ∧ (∃ x y u, IsTupOf3 h TO x y u) ∧ h.IsListIter i1 a i ∧ h.IsListIter i2 b i ∧ h.IsListIter i3 c i) where
  mem := by simp
  obj := fun i h st q hq => by
    obtain ⟨gz, gI, ⟨_, _, _, gO⟩, ⟨_, k1, -, d1⟩, ⟨_, k2, -, d2⟩, ⟨_, k3, -, d3⟩⟩ := st
    simp only [List.mem_cons, List.not_mem_nil, or_false] at hq
    rcases hq with e | e | e | e | e | e <;> rw [e]
    · exact ⟨_, gz, nofun⟩
    · exact ⟨_, gI, nofun⟩
    · exact ⟨_, gO, nofun⟩
    · exact ⟨_, k1, fun v t => nomatch d1.symm.trans t⟩
    · exact ⟨_, k2, fun v t => nomatch d2.symm.trans t⟩
    · exact ⟨_, k3, fun v t => nomatch d3.symm.trans t⟩
  keep := fun i h h' st k => by
    obtain ⟨gz, gI, ⟨_, _, _, gO⟩, k1, k2, k3⟩ := st
    exact ⟨k z (by simp) _ gz, k TI (by simp) _ gI, ⟨_, _, _, k TO (by simp) _ gO⟩, k1.at fun o => k i1 (by simp) o, k2.at fun o => k i2 (by simp) o, k3.at fun o => k i3 (by simp) o⟩
  item := by
    rintro X rfl rfl rfl calm i pins s σ H E inv fresh ⟨gz, gI, ⟨_, _, _, gO⟩, k1, k2, k3⟩ ⟨xs, ys, zs, x, y, zz, ox, oy, oz, hx, hy, hzz⟩
    obtain ⟨us1, vals1, L1, _⟩ := inv.list ox
    obtain ⟨us2, vals2, L2', _⟩ := inv.list oy
    obtain ⟨us3, vals3, L3, _⟩ := inv.list oz
    obtain ⟨u1, m1, rel1⟩ := vals1.get hx
    obtain ⟨u2, m2, rel2⟩ := vals2.get hy
    obtain ⟨u3, m3, rel3⟩ := vals3.get hzz
    have below : z < s.heap.objs.size := Heap.lt_size gz
    have none : X.A.in1.handled = Option.none := inv.ok.hd calm
    have less : ∀ {us : List Value} {u : Value}, us[i]? = some u → i < us.toArray.size := fun {us u} m => by
      rw [List.size_toArray]
      exact (List.getElem?_eq_some_iff.mp m).1
    have W1 : Draws X.prog X.w X.A.in1 i1 [i1, a] us1.toArray.size (fun i v => us1.toArray[i]? = some v) (fun i h => h.IsListIter i1 a i ∧ h.IsList a us1.toArray) := Draws.list none i1 a h1a _
    have W2 : Draws X.prog X.w X.A.in1 i2 [i2, b] us2.toArray.size (fun i v => us2.toArray[i]? = some v) (fun i h => h.IsListIter i2 b i ∧ h.IsList b us2.toArray) := Draws.list none i2 b h2b _
    have W3 : Draws X.prog X.w X.A.in1 i3 [i3, c] us3.toArray.size (fun i v => us3.toArray[i]? = some v) (fun i h => h.IsListIter i3 c i ∧ h.IsList c us3.toArray) := Draws.list none i3 c h3c _
    refine wpAny_pyNext_zipD3_item D W1 W2 W3 gz gI gO ⟨k1, L1.isList⟩ ⟨k2, L2'.isList⟩ ⟨k3, L3.isList⟩ (less m1) (less m2) (less m3) fun x1 x2 x3 h' tk y1 y2 y3 z' TO' s1 s2 s3 tup more kept => ?_
    obtain rfl : x1 = u1 := Option.some.inj (y1.symm.trans (by rw [List.getElem?_toArray, m1]))
    obtain rfl : x2 = u2 := Option.some.inj (y2.symm.trans (by rw [List.getElem?_toArray, m2]))
    obtain rfl : x3 = u3 := Option.some.inj (y3.symm.trans (by rw [List.getElem?_toArray, m3]))
    refine ⟨_, rfl, wpAny_letOwnedTupleGo_zip (s := { s with heap := h', toks := tk }) z' fun h2 z2 but => ?_⟩
    have tup2 : h2.get? s.heap.objs.size = some { cls := .type "tuple", data := .seq #[x1, x2, x3] } := (but.2 _ (Nat.ne_of_gt below)).trans tup
    have inside : ∀ {q : Addr}, q ∉ [z, TI, TO, i1, i2, i3] → q ≠ z ∧ q ≠ TI ∧ q ≠ TO ∧ q ≠ i1 ∧ q ≠ i2 ∧ q ≠ i3 := fun out => by simpa using out
    have inv2 : Inv X pins σ (upd H s.heap.objs.size (.tup [x, y, zz])) { s with heap := h2, toks := tk } :=
      inv.turnedNew (t' := tk) (ch := [z, TI, TO, i1, i2, i3]) (fun q o out g => by
        obtain ⟨n1, n2, n3, n4, n5, n6⟩ := inside out
        exact (but.2 q n1).trans (kept q o n1 n3 n4 n5 n6 g)) fresh (Nat.le_refl _) ⟨by show 3 ≤ sizeLine; decide, [x1, x2, x3], .cons rel1 (.cons rel2 (.cons rel3 .nil)), _, tup2, rfl, _, rfl⟩
    refine ⟨.ref s.heap.objs.size, _, inv2, rfl, ⟨_, x, y, zz, rfl, inv.hok.fresh (Nat.le_refl _), rfl, fun l hl => inv.list_inj hl ox ▸ hx, fun l hl => inv.list_inj hl oy ▸ hy, fun l hl => inv.list_inj hl oz ▸ hzz⟩, ⟨z2, (but.2 _ D.TIz).trans (kept _ _ D.TIz D.TITO D.TIi1 D.TIi2 D.TIi3 gI), ⟨_, _, _, (but.2 _ D.TOz).trans TO'⟩, s1.1.at fun o g => (but.2 _ D.zi1.symm).trans g, s2.1.at fun o g => (but.2 _ D.zi2.symm).trans g, s3.1.at fun o g => (but.2 _ D.zi3.symm).trans g⟩, fun q hq => ?_⟩
    have lt : q < s.heap.objs.size := by
      obtain ⟨_, g1, _⟩ := k1
      obtain ⟨_, g2, _⟩ := k2
      obtain ⟨_, g3, _⟩ := k3
      simp only [List.mem_cons, List.not_mem_nil, or_false] at hq
      rcases hq with e | e | e | e | e | e <;> rw [e]
      · exact below
      · exact Heap.lt_size gI
      · exact Heap.lt_size gO
      · exact Heap.lt_size g1
      · exact Heap.lt_size g2
      · exact Heap.lt_size g3
    exact (upd_ne (Nat.ne_of_lt lt)).trans (fresh q hq).1
  done := by
    rintro X rfl rfl rfl calm i pins s σ H E inv fresh ⟨gz, gI, ⟨_, _, _, gO⟩, k1, k2, k3⟩ ⟨n, en, xs, ys, zs, ox, oy, oz, l1, l2, l3⟩
    obtain ⟨us1, vals1, L1, _⟩ := inv.list ox
    obtain ⟨us2, vals2, L2', _⟩ := inv.list oy
    obtain ⟨us3, vals3, L3, _⟩ := inv.list oz
    have none : X.A.in1.handled = Option.none := inv.ok.hd calm
    have W1 : Draws X.prog X.w X.A.in1 i1 [i1, a] us1.toArray.size (fun i v => us1.toArray[i]? = some v) (fun i h => h.IsListIter i1 a i ∧ h.IsList a us1.toArray) := Draws.list none i1 a h1a _
    have W2 : Draws X.prog X.w X.A.in1 i2 [i2, b] us2.toArray.size (fun i v => us2.toArray[i]? = some v) (fun i h => h.IsListIter i2 b i ∧ h.IsList b us2.toArray) := Draws.list none i2 b h2b _
    have W3 : Draws X.prog X.w X.A.in1 i3 [i3, c] us3.toArray.size (fun i v => us3.toArray[i]? = some v) (fun i h => h.IsListIter i3 c i ∧ h.IsList c us3.toArray) := Draws.list none i3 c h3c _
    have e1 : us1.toArray.size = i := by rw [List.size_toArray, ← vals1.length, l1, en]
    have e2 : us2.toArray.size = i := by rw [List.size_toArray, ← vals2.length, l2, en]
    have e3 : us3.toArray.size = i := by rw [List.size_toArray, ← vals3.length, l3, en]
    exact wpAny_pyNext_zipD3_end D W1 W2 W3 gz gI gO ⟨k1, L1.isList⟩ ⟨k2, L2'.isList⟩ ⟨k3, L3.isList⟩ (Nat.le_of_eq e1.symm) (Nat.le_of_eq e2.symm) (Nat.le_of_eq e3.symm) (.inl e1.symm) fun h' tk kept => ⟨rfl, inv.turnedL (t' := tk) (ch := [z, TI, TO, i1, i2, i3]) (fun q o out g => by
      have far : q ≠ z ∧ q ≠ TI ∧ q ≠ TO ∧ q ≠ i1 ∧ q ≠ i2 ∧ q ≠ i3 := by simpa using out
      obtain ⟨n1, n2, n3, n4, n5, n6⟩ := far
      first | exact kept q o n1 n2 n3 n4 n5 n6 g | exact kept q o n1 n3 n4 n5 n6 g) fresh⟩
  self := fun _ _ _ _ _ st told => wpAny_pyIter_zip st.1 told
theorem vals_refs3 {us : List Value} {a b c : Addr} (r : Vals [V.ref a, V.ref b, V.ref c] us) : us = [.ref a, .ref b, .ref c] := by
  match us, r with
  | [_, _, _], .cons e1 (.cons e2 (.cons e3 .nil)) => exact congr (congrArg List.cons e1) (congr (congrArg List.cons e2) (congrArg (fun u => [u]) e3))
def iZip3 (K : PySem.W.Frag) (ta : TA) : TI := fun σ H R => ta σ H fun vs H1 => ∃ a b c xs ys zs, vs = [.ref a, .ref b, .ref c] ∧ SqL K H1 a xs ∧ SqL K H1 b ys ∧ SqL K H1 c zs ∧ R (Itz3 K a b c) H1
theorem pi_zip3 {X : Cx} {e e2 e3 : Expr} {ta : TA} {p pos tpos : Pos} {elts : List Expr} {kk : Nat} (hg : Gl X "zip") (hm : X.mg "zip" = none) (ha : PA X [e, e2, e3] ta)
    (hs : starEach [e, e2, e3] X.env = (false, eval e X.env) :: starEach [e2, e3] X.env := by rfl) (hpl : (backTo pos (starEach [e2, e3] X.env)).any (·.1) = false := by rfl) :
    PI X (.Tuple elts kk tpos) (.Call (.Name "zip" p) [e, e2, e3] [] pos) (iZip3 X.K ta) := by
  refine ⟨fun pins s σ H R inv told => Call_ (ld_blt inv hg hm boot_zip (callWith_type1 (thn (ha.run pos pins s σ H _ inv told) fun us t out => ?_) hs hpl))⟩
  obtain ⟨_, H1, inv1, rel, a, b, c, xs, ys, zs, rfl, ox, oy, oz, q⟩ := out
  obtain rfl := vals_refs3 rel
  obtain ⟨us1, _, L1, _⟩ := inv1.list ox
  obtain ⟨us2, _, L2', _⟩ := inv1.list oy
  obtain ⟨us3, _, L3, _⟩ := inv1.list oz
  refine zip_begins3 (begins_list a us1.toArray) (begins_list b us2.toArray) (begins_list c us3.toArray) L1.isList L2'.isList L3.isList fun h' gz gI gO g1 g2 g3 _ kept => wpAny_pyIter_zip gz ?_
  have D : ZipSep3 (t.heap.objs.size + 5) (t.heap.objs.size + 3) (t.heap.objs.size + 4) t.heap.objs.size (t.heap.objs.size + 1) (t.heap.objs.size + 2) [t.heap.objs.size, a] [t.heap.objs.size + 1, b] [t.heap.objs.size + 2, c] :=
    zip_sep3 (fun q m => List.mem_singleton.mp m ▸ L1.lt) (fun q m => List.mem_singleton.mp m ▸ L2'.lt) (fun q m => List.mem_singleton.mp m ▸ L3.lt)
  have far : ∀ {y : Addr} (k : Nat), y < t.heap.objs.size → y ≠ t.heap.objs.size + k := fun k l e => absurd (e ▸ l) (Nat.not_lt.mpr (Nat.le_add_right _ k))
  refine ⟨t.heap.objs.size + 5, [t.heap.objs.size + 5, t.heap.objs.size + 3, t.heap.objs.size + 4, t.heap.objs.size, t.heap.objs.size + 1, t.heap.objs.size + 2], _, _, H1, rfl, inv1.kept (t' := t.toks) kept, turn_zip3 D (far 3 L1.lt).symm (far 0 L1.lt) (far 1 L2'.lt) (far 2 L3.lt), ⟨gz, gI, ⟨_, _, _, gO⟩, ⟨_, g1, rfl, ?_⟩, ⟨_, g2, rfl, ?_⟩, ⟨_, g3, rfl, ?_⟩⟩, fun q m => ?_, q⟩
  any_goals (first | rfl | exact ⟨_, rfl⟩)
  have le : t.heap.objs.size ≤ q := by
    simp only [List.mem_cons, List.not_mem_nil, or_false] at m
    rcases m with e | e | e | e | e | e <;> rw [e]
    any_goals exact Nat.le_add_right _ _
    exact Nat.le_refl _
  exact inv1.fpOk le (inv1.hok.fresh le)
/-- a new triple of the i-th of xs, of ys, of zs -/
def YTrip (xs ys zs : List V) : Nat → Hp → V → Hp → Prop := fun i H v H' => ∃ T x y z, v = .ref T ∧ H T = none ∧ H' = upd H T (.tup [x, y, z]) ∧ xs[i]? = some x ∧ ys[i]? = some y ∧ zs[i]? = some z
theorem walk_zip3 {K : PySem.W.Frag} {a b c : Addr} {xs ys zs : List V} (h1 : ys.length = xs.length) (h2 : zs.length = xs.length) : Walk (Itz3 K a b c) xs.length (fun H => SqL K H a xs ∧ SqL K H b ys ∧ SqL K H c zs) (YTrip xs ys zs) := by
  refine ⟨fun i _ hi q => ?_, fun _ q => ⟨xs.length, rfl, xs, ys, zs, q.1, q.2.1, q.2.2, rfl, h1, h2⟩, fun i H v H' _ q y => ?_⟩
  · exact ⟨xs, ys, zs, xs[i], ys[i]'(by omega), zs[i]'(by omega), q.1, q.2.1, q.2.2, by simp [hi], by simp [h1, hi], by simp [h2, hi]⟩
  · obtain ⟨T, x, y, z, g1, g2, g3, g4, g5, g6⟩ := y
    exact ⟨T, x, y, z, g1, g2, g3, g4 xs q.1, g5 ys q.2.1, g6 zs q.2.2⟩
/-! ### repr of data -/
section
variable {X : Cx}
theorem call_reprD (hg : X.A.guards = some []) {d : PyData} (hu : X.A.units + (d.depth + 2) < cLine) : CallR X (.builtin "repr") (fun xs H Q => ∃ v, xs = [v] ∧ Dp X.K H v d ∧ d.showable = true ∧ d.hasDict = false ∧ d.shown.length ≤ sizeLine ∧ Q (.str d.shown) H) := by
  intro pins s σ H xs us Q I r h
  obtain ⟨v, rfl, hd, hs, hn, hz, q⟩ := h
  obtain ⟨u, rfl, ru⟩ := vals1 r
  obtain ⟨as, rd⟩ := Dp.reads I d v u hd ru
  have hsm : d.hasDict = true → sysModules ∉ as := fun e => by rw [hn] at e; cases e
  have fin : ∀ h' tk k, (∀ b o, s.heap.get? b = some o → h'.get? b = some o) → EP X pins σ Q (.str d.shown tk) { s with heap := h', toks := k } := fun h' tk k hk => ⟨.str d.shown, H, I.kept hk, ⟨_, rfl⟩, q⟩
  cases rd with
  | none => exact P.repr_of_none (fin _ _ _ fun _ _ e => e)
  | bool b => exact P.repr_of_bool (fin _ _ _ fun _ _ e => e)
  | int i t => exact P.repr_of_int (by simpa [PyData.showable] using hs) (fin _ _ _ fun _ _ e => e)
  | str x t => exact P.repr_of_str (fin _ _ _ fun _ _ e => e) hz
  | list h1 h2 h3 h4 => exact repr_of_reads' (.list h1 h2 h3 h4) hs hsm hg (by omega) (fun _ _ e => e) (fun h' u tk hk => fin h' u tk hk) hz
  | tuple h1 h2 h3 h4 => exact repr_of_reads' (.tuple h1 h2 h3 h4) hs hsm hg (by omega) (fun _ _ e => e) (fun h' u tk hk => fin h' u tk hk) hz
  | dict _ _ _ _ _ => simp [PyData.hasDict] at hn
end
end K30

/-! #### Rules2 -/
namespace K30
open PySem PySem.Spec PyProof.Rows L2
/-! ### set(xs) of a list of ints -/
/-- a set as it is born -/
abbrev born (w : World) : Obj := { cls := .type "set", dict := none, data := .set #[] 0 (.fresh 0 0 (!w.params.followText "set-order")) }
section
variable {P : Program} {w : World} {A : Around} {E : Value → Shared → Prop} {s : Shared}
/-- the born set at S takes the list's ints in -/
theorem init_ints {S l : Addr} {vs : Array Value} (ns : List Int) (quiet : A.in1.handled = none) (isS : s.heap.get? S = some (born w)) (isL : s.heap.IsList l vs) (num : IntsAre vs.toList ns) (few : ns.length + 1 < scanBound) {Q : PySem.Fin → Shared → Prop}
    (post : ∀ (h : Heap) (tk c : Nat), SetR w h S (fun j => decide (j ∈ ns)) c → c ≤ ns.length → (∀ b o, b ≠ S → s.heap.get? b = some o → h.get? b = some o) → Q (.done (.ret .none)) { s with heap := h, toks := tk }) :
    wpAny (model P w) A (Builtin.«set.__init__» ⟨[.ref S, .ref l], []⟩) Q E s := by
  have long : vs.size = ns.length := by simpa using IntsAre.length num
  obtain ⟨ol, gl, cl, n, dl⟩ := id isL
  cases ol with
  | mk c d dt sl =>
  cases cl
  cases dl
  have q1 := F.sub_list_set
  have q2 := F.sub_list_frozenset
  have q3 : (Value.type "list" == Value.type "dict") = false := by decide
  have ne : S ≠ l := fun e => by
    rw [e, gl] at isS
    have z : Value.type "list" = Value.type "set" := congrArg Obj.cls (Option.some.inj isS)
    exact absurd (Value.type.inj z) (by decide)
  have lS := Heap.lt_size isS
  have ll := Heap.lt_size gl
  unfold Builtin.«set.__init__» noKeywords Builtin.Frozenset.updateFrom
  generalize hp : pyIter = it
  wp_walk
  subst hp
  refine wpAny_pyIter_list isL (wpAny_bind (wpAny_runValue ?_))
  have away : S ∉ [s.heap.objs.size, l] := fun z => by
    rcases List.mem_cons.mp z with e | z
    · exact Nat.ne_of_lt lS e
    · exact ne (List.mem_singleton.mp z)
  have item : ∀ (i : Nat) (v : Value), vs[i]? = some v → ∃ k t, ns[i]? = some k ∧ v = .int k t := by
    intro i v hv
    obtain ⟨hi, hvi⟩ := Array.getElem?_eq_some_iff.mp hv
    obtain ⟨t, e⟩ := IntsAre.int_at num i v (by simpa using hv)
    have g : ns[i]? = some (ns[i]'(by omega)) := List.getElem?_eq_getElem (by omega)
    exact ⟨_, t, g, by rw [e, List.getD_eq_getElem?_getD, g]; rfl⟩
  refine set_update_ints ((Walks.list quiet s.heap.objs.size l (Nat.ne_of_lt ll) vs).toS) S away ns long few item vs.size 0 _ (by omega) (by omega) ⟨⟨_, Heap.get?_push_size _ rfl, rfl, rfl⟩, isL.push _⟩ ⟨0, Nat.le_refl 0, setR_new_at (Heap.get?_push_of_some _ isS)⟩ fun s2 c moved hc done => ?_
  cases s2 with
  | mk h g dr tk os =>
  cases moved.gens
  cases moved.drawn
  cases moved.os
  refine wpAny_pure (wpAny_pure ?_)
  refine post h tk c done (long ▸ hc) fun b o nb gb => moved.heap b o ?_ (Heap.get?_push_of_some _ gb)
  intro z
  rcases List.mem_cons.mp z with e | z
  · exact nb e
  · exact Nat.ne_of_lt (Heap.lt_size gb) (List.mem_singleton.mp z)
set_option maxRecDepth 100000 in
set_option maxHeartbeats 3200000 in
theorem call_set_listI {l : Addr} {vs : Array Value} (ns : List Int) {Q : Value → Shared → Prop} (quiet : A.handled = none) (isL : s.heap.IsList l vs) (num : IntsAre vs.toList ns) (few : ns.length + 1 < scanBound)
    (post : ∀ (h : Heap) (tk c : Nat), SetR w h s.heap.objs.size (fun j => decide (j ∈ ns)) c → c ≤ ns.length → (∀ b o, s.heap.get? b = some o → h.get? b = some o) → Q (.ref s.heap.objs.size) { s with heap := h, toks := tk }) :
    wpAny (model P w) A (call (.type "set") [.ref l]) Q E s := by
  obtain ⟨_, _, f0⟩ := F.called_set.mro
  have f1 := F.called_set.made
  have f2 := F.called_set.sub
  have f3 := F.called_set.notType
  have f4 := F.called_set.canCreate
  have f5 := F.typeCall_set_1 (.ref l)
  have f6 := F.called_set.init.lookup
  have f7 := F.called_set.init.bind (.ref s.heap.objs.size)
  have fresh : (s.heap.push (born w)).get? s.heap.objs.size = some (born w) := Heap.get?_push_size _ rfl
  refine wpAny_call (codeAny_of_tree (show wpAny _ _ (callAny (.type "set") _) _ _ _ from wpAny_pure ⟨Code.quiet_builtin _ (by decide +kernel), codeAny_builtin F.entry_type_call ?_⟩))
  rw [Around.under_plain (weight_type_call_type "set" [.ref l] []) rfl]
  repeat (any_goals (first | assumption | wp_step))
  refine codeAny_mono (code_set_led1 (.ref l) (E := E) (Q₁ := fun v t => v = .ref s.heap.objs.size ∧ t = { s with heap := s.heap.push (born w) }) ⟨rfl, rfl⟩) fun r t hr => ?_
  rcases r with e | fl
  · exact hr
  cases fl
  case ret v =>
    obtain ⟨rfl, rfl⟩ := hr
    repeat (any_goals (first | assumption | wp_step))
    refine codeAny_mono (codeAny_call_builtin (R := wants (fun v t => v = .none ∧ ∃ h tk c, t = { s with heap := h, toks := tk } ∧ SetR w h s.heap.objs.size (fun j => decide (j ∈ ns)) c ∧ c ≤ ns.length ∧ ∀ b o, s.heap.get? b = some o → h.get? b = some o) E) F.called_set.init.plain F.entry_set_init (check_set_init_1 (show Shared.TypeIs { s with heap := s.heap.push (born w) } (.ref s.heap.objs.size) "set" from ⟨_, fresh, rfl⟩) ?_)) fun r t hr => ?_
    · refine init_ints ns (by simp [quiet]) fresh ?_ num few fun h tk c R hc keep => ?_
      · obtain ⟨o, g, k⟩ := isL
        exact ⟨o, Heap.get?_push_of_some _ g, k⟩
      · exact ⟨rfl, h, tk, c, rfl, R, hc, fun b o g => keep b o (Nat.ne_of_lt (Heap.lt_size g)) (Heap.get?_push_of_some _ g)⟩
    · rcases r with e | fl
      · exact hr
      cases fl
      case ret v =>
        obtain ⟨rfl, h, tk, c, rfl, R, hc, keep⟩ := hr
        repeat (any_goals (first | assumption | wp_step))
        exact post h tk c R hc keep
      all_goals exact hr.elim
  all_goals exact hr.elim
end
section
variable {X : Cx}
/-- set(xs), xs a list of ints -/
def rSetOfI (K : PySem.W.Frag) (w : World) : List V → Hp → VK → Prop := fun xs H Q => ∃ (l : Addr) (ns : List Int), xs = [V.ref l] ∧ SqL K H l (ns.map V.int) ∧ ns.length < 63 ∧
  ∀ (a : Addr) (c : Nat), c ≤ ns.length → H a = none → Q (.ref a) (upd H a (SetO w a (fun j => decide (j ∈ ns)) c))
theorem cr_setOfI (hc : X.calm = true) : CallR X (.type "set") (rSetOfI X.K X.w) := by
  intro pins s σ H xs us Q I r h
  obtain ⟨l, ns, rfl, hl, hz, q⟩ := h
  rw [Vals.ref1 r]
  obtain ⟨its, rv, pl, _⟩ := I.list hl
  refine call_set_listI (P := X.prog) (w := X.w) ns (I.ok.hd hc) pl.isList (by simpa using rv.ints) (by unfold scanBound; omega) fun h' tk c R hc k => ?_
  exact ⟨.ref s.heap.objs.size, upd H s.heap.objs.size (SetO X.w s.heap.objs.size (fun j => decide (j ∈ ns)) c), I.laid (t' := tk) k (Nat.le_refl _) (setO_new R), rfl, q _ c hc (I.hok.fresh (Nat.le_refl _))⟩
/-! ### sorted(xs) of a list of lists of ints: the same lists, in some order -/
def LInt (K : PySem.W.Frag) (H : Hp) (x : V) (ns : List Int) : Prop := ∃ a, x = V.ref a ∧ SqL K H a (ns.map V.int)
abbrev LAll (K : PySem.W.Frag) (H : Hp) : List V → List (List Int) → Prop := Paired (LInt K H)
def rSortedLL (K : PySem.W.Frag) : List V → Hp → VK → Prop := fun vs H Q => ∃ (a : Addr) (xs : List V) (bs : List (List Int)), vs = [V.ref a] ∧ SqL K H a xs ∧ LAll K H xs bs ∧
  ∀ (ys : List V) (cs : List (List Int)) (p : Addr), cs.Perm bs → LAll K H ys cs → H p = none → Q (.ref p) (upd H p (.lst ys))
theorem dpAll_ints {K : PySem.W.Frag} {H : Hp} : ∀ l : List Int, DpAll K H (l.map V.int) (l.map PyData.int)
  | [] => .nil
  | m :: l => .cons (.int m) (dpAll_ints l)
theorem reads_ints {pins : List (Addr × Obj)} {σ : L2.St} {H : Hp} {s : Shared} (I : Inv X pins σ H s) {x : V} {v : Value} {ns : List Int} (h : LInt X.K H x ns) (r : RelV x v) : ∃ as, Reads s.heap v (.list (ns.map .int)) as := by
  obtain ⟨a, rfl, hs⟩ := h
  exact Dp.reads I (.list (ns.map .int)) (.ref a) v (.lst hs (dpAll_ints ns)) r
theorem cr_sortedLL (hu : X.A.units + 64 < cLine) : CallR X (.builtin "sorted") (rSortedLL X.K) := by
  intro pins s σ H vs us Q I r h
  obtain ⟨a, xs, bs, rfl, hs, hx, q⟩ := h
  obtain ⟨its, rv, hl, hz⟩ := I.list hs
  rw [Vals.ref1 r]
  have hb : PySem.W.EachIs (fun v b => (∃ a, v = Value.ref a ∧ SqL X.K H a (b.map V.int)) ∧ ∃ as, Reads s.heap v (PyData.list (b.map .int)) as) its bs := by
    have key : ∀ (ys : List V) (ws : List Value) (bs : List (List Int)), Vals ys ws → LAll X.K H ys bs → PySem.W.EachIs (fun v b => (∃ a, v = Value.ref a ∧ SqL X.K H a (b.map V.int)) ∧ ∃ as, Reads s.heap v (PyData.list (b.map .int)) as) ws bs := by
      intro ys ws bs rr
      induction rr generalizing bs with
      | nil => intro h; cases h; exact .nil
      | cons p t ih =>
        intro h
        cases h with
        | cons h1 h2 =>
          refine .cons ⟨?_, reads_ints I h1 p⟩ (ih _ h2)
          obtain ⟨t, rfl, ht⟩ := h1
          exact ⟨t, p, ht⟩
    exact key xs its bs rv hx
  refine PySem.W.sorted_data (R := fun v b => ∃ a, v = Value.ref a ∧ SqL X.K H a (b.map V.int)) (enc := fun b : List Int => PyData.list (b.map .int)) hl.isList (hb.mono fun _ _ h => h.1) (hb.mono fun _ _ h => h.2)
    (.of fun b b' => ?_) (.others fun b => ⟨(by intro e; cases e), fun xs e => by cases e⟩) (by rw [← hb.length, ← rv.length]; exact hz) (fun b _ => ?_) fun out ho he => ?_
  · exact PySem.W.alike_ints b b'
  · show X.A.units + 2 + (PyData.list (b.map PyData.int)).depth < cLine
    have := PySem.W.depth_ints b
    have e : (PyData.list (b.map PyData.int)).depth = 1 + 0 := by simp [PyData.depth, this]
    rw [e]
    omega
  · have key : ∀ (ws : List Value) (cs : List (List Int)), PySem.W.EachIs (fun v b => ∃ a, v = Value.ref a ∧ SqL X.K H a (b.map V.int)) ws cs → ∃ ys : List V, Vals ys ws ∧ LAll X.K H ys cs := by
      intro ws cs h
      induction h with
      | nil => exact ⟨[], .nil, .nil⟩
      | cons p t ih =>
        obtain ⟨ys, h1, h2⟩ := ih
        obtain ⟨a, rfl, ha⟩ := p
        exact ⟨.ref a :: ys, .cons rfl h1, .cons ⟨a, rfl, ha⟩ h2⟩
    obtain ⟨ys, rv2, ha⟩ := key _ _ he
    obtain ⟨ep, he'⟩ := PyProof.Rows.sortedAll_at s.heap its out.toArray
    refine ⟨.ref _, upd H (s.heap.objs.size + 1) (.lst ys), I.laid (t' := s.toks) (fun _ _ => PyProof.Rows.sortedAll_old) (Nat.le_succ _) ⟨?_, out, ep, rv2, by simpa using he'⟩, rfl, q ys _ _ (List.mergeSort_perm _ _) ha (I.hok.fresh (Nat.le_succ _))⟩
    rw [rv2.length, ho, ← hb.length, ← rv.length]
    exact hz
/-! ### powers of any size -/
theorem op_powW : OpR X (binaryOp .Pow) (rI (fun i j => 0 ≤ j ∧ (Builtin.Int.intBits i : Int) * j ≤ 2 ^ 27) fun i j => .int (i ^ j.toNat)) := opI fun _ _ _ _ _ _ _ hc q => pow_int hc.1 hc.2 q
end
/-! ### f(k = v, ..): keywords alone -/
section
variable {X : Cx} {CX : CXT} {k : Nat} {f : Addr} {fd : FuncData} {ps ks : List Str} {sp : Sp} {E : XK} {x : Str} {p pos : Pos} {kws : List Keyword} {tk : TA} {g : List Value → List Value → List Value} {gV : List V → List V → List V}
theorem pe_callKW (F : FnOk X.prog X.w X.K X.mg X.base CX k f fd ps sp) (hr : Room k X.A) (hg : Gl X x) (hm : X.mg x = some (.ref f)) (hk : PySem.W.keepIn X.K (.ref f) = true) (hb : KBn X.K fd ps 0 ks g gV) (hx : Passes CX X E)
    (hkw : PK X kws tk) (hall : (backToKw pos (keywordEach kws X.env)).all (·.1.isSome) = true := by rfl) (hks : (backToKw pos (keywordEach kws X.env)).filterMap (·.1) = ks := by rfl)
    (hdb : (x == ("__debug__" : Str)) = false := by decide)
    (hpl : ((backTo pos (starEach [] X.env)).any (·.1) || (backToKw pos (keywordEach kws X.env)).any (·.1.isNone)) = false := by rfl) :
    PE X (.Call (.Name x p) [] kws pos) (tCallN 0 ks.length sp gV E tNil tk) := by
  refine ⟨fun pins s σ H Q I h => ?_⟩
  refine wpAny_Call_Name_kw (ld_glob I hg hm ?_ hdb)
  refine PySem.W.callWith_KW0 (h₀ := X.base) I.ok.mod.kin hk hall (thn (hkw.run pos pins s σ H _ I h) fun ws s2 ⟨zs, H2, I2, rz, l1, l2, q2⟩ => ⟨I2.kIn, ?_⟩) hpl
  rw [hks]
  exact run_fnN (us := []) (vs := []) F hr hb hx I2 .nil rz rfl l2 q2
end
end K30

/-! #### Rules3 -/
namespace K30
open PySem PySem.Spec PyProof.Rows L2
/-! ### promises of defs that are called where no repr is under way -/
structure FnOkG (P : Program) (w : World) (K : PySem.W.Frag) (mg : Str → Option Value) (base : Heap) (CX : CXT) (k : Nat) (f : Addr) (fd : FuncData) (ps : List Str) (sp : Sp) : Prop where
  arity : ∀ xs h q e, sp xs h q e → xs.length = ps.length
  go : ∀ {A : Around} {outer : List Env} {s : Shared} {h : Hp} {args : Args} {us : List Value} {xs : List V} {q : VK} {e : XK}, Room k A → A.guards = some [] → Env0 P w K mg base A outer s h → BindsTo s fd args (ps.zip us) → Vals xs us → sp xs h q e →
    codeAny (model P w) A (.call (.ref f) args) (CR CX outer P w h s q e) s
section
variable {P : Program} {w : World} {K : PySem.W.Frag} {mg : Str → Option Value} {base : Heap} {x qual : Str} {params : Arguments} {body : List Stmt} {scope : Scope} {dvs : List V} {kws : List (Str × V)} {f : Addr} {fd : FuncData} {N ps : List Str} {k : Nat} {sp : Sp}
/-- a def whose body is read so keeps its promise -/
theorem okG {CX : CXT} (F : FunD K x qual params body scope dvs kws f fd) (S : FnScope N ps scope) (ar : ∀ xs h q e, sp xs h q e → xs.length = ps.length)
    (bd : ∀ (cdv : Value) (A : Around) (outer : List Env) (s : Shared) (h : Hp) (xs : List V) (q : VK) (e : XK), Room k (A.deeper (envOfC qual scope s.heap.objs.size f cdv)) → A.guards = some [] → sp xs h q e →
      ∃ t, PSs (cxOf CX P w K mg base N qual scope f cdv A outer s h e).nox body t ∧ t { nx := fun _ h' => q .non h', rt := q } (start N xs) h) : FnOkG P w K mg base CX (k + 1) f fd ps sp := by
  obtain ⟨_, _, _, _, _, _, _, code, _, _, rfl, stands, known, -, -⟩ := F.ex
  refine ⟨ar, fun {A outer s h args us xs q e} room none env binds vals told => ?_⟩
  have kept := fun b o (z : base.get? b = some o) => (env.bs b o z).1
  have inK : K.In s.heap := env.mod.kin.keeps kept
  have places : ∀ y ∈ ps.zip us, scope.names.lookup y.1 = some .local ∨ (scope.names.lookup y.1 = some .cell ∧ ((cellsFrom (s.heap.objs.size + 1) scope.names []).lookup y.1).isSome = true) := by
    rintro ⟨n, v⟩ mem
    exact (S.par n (List.of_mem_zip mem).1).imp id fun z => ⟨z, PySem.W.cellsFrom_some _ _ _ (.inl z)⟩
  refine codeAny_call_function room.depth (inK _ _ stands) rfl S.co S.gen rfl (PySem.W.codeRec_of inK known) (binds _ _ _ _ (wpAny_newFunctionEnv_cells S.kind places ?_))
  rintro _ rfl s1 begun
  refine ⟨(env.mod.nolimit.keeps kept).keeps begun.toInCall.keep, codeAny_func ?_⟩
  obtain ⟨t, walk, holds⟩ := bd code A outer s h xs q e (room.deeper _) none told
  refine wpAny_mono (walk.nox.run [] s1 (start N xs) h _ (inv_start S room.hd env (ar _ _ _ _ told) vals begun) holds) (fun fl s2 out => ?_) fun _ _ z => z
  match fl, out with
  | .ret _, ⟨v, _, h', J, rel, z⟩ => exact ⟨v, h', J.os, J.bare, J.base, J.hok, rel, z⟩
  | .next, ⟨_, h', J, z⟩ => exact ⟨.non, h', J.os, J.bare, J.base, J.hok, rfl, z⟩
  | .brk, ⟨_, _, _, z⟩ => exact z.elim
  | .cont, ⟨_, _, _, z⟩ => exact z.elim
/-- the layer's own promise, with the body's reading given without what it may raise -/
theorem okN (F : FunD K x qual params body scope dvs kws f fd) (S : FnScope N ps scope) (ar : ∀ xs h q e, sp xs h q e → xs.length = ps.length)
    (bd : ∀ (cdv : Value) (A : Around) (outer : List Env) (s : Shared) (h : Hp) (xs : List V) (q : VK) (e : XK), Room k (A.deeper (envOfC qual scope s.heap.objs.size f cdv)) → sp xs h q e →
      ∃ t, PSs (cxOf CX0 P w K mg base N qual scope f cdv A outer s h e).nox body t ∧ t { nx := fun _ h' => q .non h', rt := q } (start N xs) h) : FnOk P w K mg base CX0 (k + 1) f fd ps sp :=
  F.ok S ar fun cdv A outer s h xs q e room told => (bd cdv A outer s h xs q e room told).imp fun _ z => ⟨z.1.nox, z.2⟩
end
section
variable {X : Cx} {CX : CXT} {k : Nat} {f : Addr} {fd : FuncData} {ps : List Str} {sp : Sp} {E : XK} {x : Str} {p pos : Pos} {e : Expr} {es : List Expr} {t : TA}
/-- f(e, ..) where no repr is under way -/
theorem pe_callG (F : FnOkG X.prog X.w X.K X.mg X.base CX k f fd ps sp) (room : Room k X.A) (none : X.A.guards = some []) (hg : Gl X x) (hm : X.mg x = some (.ref f)) (hk : PySem.W.keepIn X.K (.ref f) = true) (binds : Binds X.K fd ps []) (hx : Passes CX X E) (ha : PA X (e :: es) t)
    (hdb : (x == ("__debug__" : Str)) = false := by decide) (he : starEach (e :: es) X.env = (false, eval e X.env) :: starEach es X.env := by rfl) (hpl : (backTo pos (starEach es X.env)).any (·.1) = false := by rfl) : PE X (.Call (.Name x p) (e :: es) [] pos) (tCall sp [] E t) := by
  refine ⟨fun pins s σ h Q inv told => wpAny_Call_Name_kw (ld_glob inv hg hm (PySem.W.callWith_K (h₀ := X.base) inv.ok.mod.kin hk (thn (ha.run pos pins s σ h _ inv told) fun us s1 ⟨xs, h1, inv1, vals, z⟩ => ⟨inv1.kIn, ?_⟩) he hpl) hdb)⟩
  have vals0 : Vals (xs ++ []) (us ++ []) := vals.append .nil
  have long : (us ++ []).length = ps.length := vals0.length ▸ F.arity _ _ _ _ z
  refine wpAny_call (codeAny_mono (F.go room none inv1.env0 (binds s1 us inv1.kIn long) vals0 z) fun r s2 out => ?_)
  match r, out with
  | .error v, out => exact hx pins σ h1 s1 v s2 inv1 out
  | .ok (.ret _), out => exact inv1.after out
  | .ok .next, out => exact out.elim
  | .ok .brk, out => exact out.elim
  | .ok .cont, out => exact out.elim
end
/-! ### the law's end -/
/-- what is tracked where the law is called: the script's list, if it is none of the module's own objects -/
def scriptH (K : PySem.W.Frag) (a : Addr) (o : Obj) (xs : List V) : Hp := fun b => if b = a ∧ K.lookup a = none then some (.frz o (.lst xs)) else none
theorem scriptH_some {K : PySem.W.Frag} {a b : Addr} {o : Obj} {xs : List V} {u : HO} (z : scriptH K a o xs b = some u) : b = a ∧ K.lookup a = none ∧ u = .frz o (.lst xs) := by
  unfold scriptH at z
  split at z
  · rename_i c
    exact ⟨c.1, c.2, (Option.some.inj z).symm⟩
  · cases z
theorem scriptH_none {K : PySem.W.Frag} {a b : Addr} {o : Obj} {xs : List V} (z : b = a → K.lookup a ≠ none) : scriptH K a o xs b = none := if_neg fun c => z c.1 c.2
theorem law_endG {P : Program} {w : World} {K : PySem.W.Frag} {mg mb : Str → Option Value} {k : Nat} {f a : Addr} {fd : FuncData} {x : Str} {sp : Sp} {s : Shared} {vs : List Value} {ns : List Int}
    (inK : K.In s.heap) (glob : s.heap.Ns mainGlobals mg) (blt : s.heap.Ns builtinsNs mb) (boot : ∀ y : Str, y ≠ "__name__" → mb y = bootBuiltins y) (free : s.heap.NoLimit) (gens : s.gens = #[]) (stands : s.heap.get? a = some { cls := .type "list", data := .seq vs.toArray })
    (num : IntsAre vs ns) (few : ns.length ≤ sizeLine) (room : Room k callerA) (binds : ∀ (s : Shared) (u : Value), BindsTo s fd ⟨[u], []⟩ [(x, u)]) (F : ∀ base : Heap, K.In base → base.Ns mainGlobals mg → FnOkG P w K mg base CX0 k f fd [x] sp)
    (told : ∀ h : Hp, SqL K h a (ns.map V.int) → sp [.ref a] h (fun v _ => v = .bl true) fun _ _ _ => False) :
    codeAny (model P w) callerA (.call (.ref f) ⟨[.ref a], []⟩) (fun r t => r = .ok (.ret (.bool true)) ∧ OldK s.heap t.heap ∧ t.os = s.os ∧ AllBare t.gens) s := by
  have vals := vals_ints num
  have long : vs.length = ns.length := num.length
  generalize eo : ({ cls := .type "list", data := .seq vs.toArray } : Obj) = o at stands
  generalize eh : scriptH K a o (ns.map V.int) = h
  have inv : ∀ {b u}, h b = some u → b = a ∧ K.lookup a = none ∧ u = .frz o (.lst (ns.map V.int)) := fun z => scriptH_some (by rw [eh]; exact z)
  have non : ∀ {b}, (b = a → K.lookup a ≠ none) → h b = none := fun z => eh ▸ scriptH_none z
  have seq : SqL K h a (ns.map V.int) := by
    cases c : K.lookup a with
    | none => exact .inl (.inr ⟨o, by rw [← eh]; exact if_pos ⟨rfl, c⟩⟩)
    | some o' =>
      have e : o = o' := Option.some.inj (stands.symm.trans (inK a o' c))
      subst e eo
      exact .inr ⟨_, vs.toArray, _, c, rfl, rfl, rfl, by rw [List.size_toArray, long]; exact few, by simpa using vals⟩
  have hok : HOk P w h s.heap := fun b u z => by
    obtain ⟨rfl, -, rfl⟩ := inv z
    subst eo
    exact ⟨stands, by rw [List.length_map]; exact few, vs, _, vals, stands⟩
  have spaces : ∀ {b : Addr} {m : Str → Option Value}, s.heap.Ns b m → (hidT s.heap h).Ns b m := by
    rintro b m ⟨o', es, ep, g, d, rest⟩
    refine ⟨o', es, ep, hidT_get g (non fun e => ?_), d, rest⟩
    rw [e, stands] at g
    cases g
    subst eo
    cases d
  have inK' : K.In (hidT s.heap h) := fun b o' z => hidT_get (inK b o' z) (non fun e => by rw [← e, z]; simp)
  have env : Env0 P w K mg (hidT s.heap h) callerA [] s h := by
    obtain ⟨mc, c1, c2⟩ := free
    exact ⟨rfl, ⟨inK', spaces glob, ⟨mb, spaces blt, boot⟩, mc, spaces c1, c2⟩, fun _ _ z => of_hidT z, Nat.le_of_eq (hidT_size _ _), trivial, fun b z => (by cases z), hok, .of_eq gens⟩
  refine codeAny_mono ((F _ inK' (spaces glob)).go (us := [.ref a]) (xs := [.ref a]) room rfl env (binds s (.ref a)) (.cons rfl .nil) (told h seq)) fun r t out => ?_
  match r, out with
  | .error _, out => exact out.elim
  | .ok .next, out => exact out.elim
  | .ok .brk, out => exact out.elim
  | .ok .cont, out => exact out.elim
  | .ok (.ret u), ⟨_, h', os, bare, un, hok', rel, rfl⟩ =>
    obtain rfl : u = .bool true := rel
    refine ⟨rfl, OldK.of_keep fun b o' g => ?_, os, bare⟩
    cases c : h b with
    | none => exact un.keep b o' g c (fun z => by cases z) (fun z => by cases z)
    | some v =>
      obtain ⟨rfl, -, rfl⟩ := inv c
      rw [stands] at g
      cases g
      exact (hok' b _ (un.frzs b _ _ c)).1
/-- the walk of a law whose def is promised so -/
theorem walk_ofEG {l : PySem.W.OpenLaw} {n k : Nat} {q : Program} {loose : List Str} {XP : (Str → Option Value) → Heap → Prop} {YP : World → Heap → Prop} {d : DefRec} {x : Str} (hn : l.most = some n) (hn2 : n ≤ sizeLine) (plain : d.params.defaults = []) (room : Room k callerA)
    (F : ∀ (w : World) (mg : Str → Option Value) (f : Addr) (h : Heap), YP w h → h.Ns mainGlobals mg → mg d.name = some (.ref f) → ∃ (K : PySem.W.Frag) (fd : FuncData) (sp : Sp), K.In h ∧ (∀ (s : Shared) (u : Value), BindsTo s fd ⟨[u], []⟩ [(x, u)]) ∧
      (∀ (t : Hp) (a : Addr) (ns : List Int), SqL K t a (ns.map V.int) → sp [.ref a] t (fun v _ => v = .bl true) fun _ _ _ => False) ∧ ∀ base : Heap, K.In base → base.Ns mainGlobals mg → FnOkG l.prog w K mg base CX0 k f fd [x] sp) :
    PySem.W.WalkO q loose XP YP l.row.toRowW d [] (fun f vs => PySem.call f vs) :=
  Att.attach_call hn plain fun w _ _ mg _ f _ _ _ _ a _ ns G Y _ _ _ at_f stands num most gens => by
    obtain ⟨K, fd, sp, inK, binds, told, ok⟩ := F w mg f _ Y G.T.g at_f
    exact law_endG inK G.T.g G.T.b G.T.builtins G.T.nolimit gens stands num (Nat.le_trans most hn2) room binds ok fun t seq => told t a ns seq
end K30

/-! #### Base -/
namespace K30
open PySem PySem.Spec PyProof.Rows L2
/-! ### the text by places -/
def top (i : Nat) : Stmt := PySem.Challenge.pw_timedoors_k30_whole_debts.main.body.getD i (.Pass ⟨0, 0, 0, 0⟩)
abbrev s_is_whole : Stmt := top 6
abbrev s_is_between : Stmt := top 7
abbrev s_is_room : Stmt := top 8
abbrev s_is_lights : Stmt := top 9
abbrev s_door_fits : Stmt := top 10
abbrev s_level_fits : Stmt := top 11
abbrev s_mask_of : Stmt := top 12
abbrev s_masked_doors : Stmt := top 13
abbrev s_sent_from : Stmt := top 14
abbrev s_closed_at : Stmt := top 15
abbrev s_light_of : Stmt := top 16
abbrev s_step_fits : Stmt := top 18
abbrev s_house_fits : Stmt := top 19
abbrev s_check_house : Stmt := top 20
abbrev s_needs_between : Stmt := top 21
abbrev s_is_place : Stmt := top 22
abbrev s_is_walk_in : Stmt := top 23
abbrev s_check_walks : Stmt := top 24
abbrev s_pressed_masks : Stmt := top 25
abbrev s_goes_on : Stmt := top 27
abbrev s_check_walk_number : Stmt := top 28
abbrev s_opened_in : Stmt := top 29
abbrev s_opened_by : Stmt := top 30
abbrev s_debts : Stmt := top 31
abbrev s_law_hash : Stmt := top 33
abbrev s_law_random : Stmt := top 34
abbrev s_law_cell : Stmt := top 35
abbrev s_law_generator : Stmt := top 36
abbrev s_law_same : Stmt := top 37
abbrev s_law_lights : Stmt := top 38
abbrev s_law_level : Stmt := top 39
abbrev s_law_light : Stmt := top 40
abbrev s_law_house : Stmt := top 41
abbrev s_law_goals : Stmt := top 42
abbrev s_law_walk : Stmt := top 43
abbrev s_law_pressed : Stmt := top 44
abbrev s_law_opens : Stmt := top 45
abbrev s_law_open : Stmt := top 46
abbrev s_law_opened : Stmt := top 47
abbrev s_law_told_right : Stmt := top 48
abbrev s_law_right : Stmt := top 49
abbrev s_law : Stmt := top 50
def d_is_whole : He.DefD := ⟨("is_whole", none), "is_whole", "is_whole", defArgs s_is_whole, defBody s_is_whole, defScope s_is_whole, [], []⟩
def d_is_between : He.DefD := ⟨("is_between", none), "is_between", "is_between", defArgs s_is_between, defBody s_is_between, defScope s_is_between, [], []⟩
def d_is_room : He.DefD := ⟨("is_room", none), "is_room", "is_room", defArgs s_is_room, defBody s_is_room, defScope s_is_room, [], []⟩
def d_is_lights : He.DefD := ⟨("is_lights", none), "is_lights", "is_lights", defArgs s_is_lights, defBody s_is_lights, defScope s_is_lights, [], []⟩
def d_door_fits : He.DefD := ⟨("door_fits", none), "door_fits", "door_fits", defArgs s_door_fits, defBody s_door_fits, defScope s_door_fits, [], []⟩
def d_level_fits : He.DefD := ⟨("level_fits", none), "level_fits", "level_fits", defArgs s_level_fits, defBody s_level_fits, defScope s_level_fits, [], []⟩
def d_mask_of : He.DefD := ⟨("mask_of", none), "mask_of", "mask_of", defArgs s_mask_of, defBody s_mask_of, defScope s_mask_of, [], []⟩
def d_masked_doors : He.DefD := ⟨("masked_doors", none), "masked_doors", "masked_doors", defArgs s_masked_doors, defBody s_masked_doors, defScope s_masked_doors, [], []⟩
def d_sent_from : He.DefD := ⟨("sent_from", none), "sent_from", "sent_from", defArgs s_sent_from, defBody s_sent_from, defScope s_sent_from, [], []⟩
def d_closed_at : He.DefD := ⟨("closed_at", none), "closed_at", "closed_at", defArgs s_closed_at, defBody s_closed_at, defScope s_closed_at, [], []⟩
def d_light_of : He.DefD := ⟨("light_of", none), "light_of", "light_of", defArgs s_light_of, defBody s_light_of, defScope s_light_of, [], []⟩
def d_step_fits : He.DefD := ⟨("step_fits", none), "step_fits", "step_fits", defArgs s_step_fits, defBody s_step_fits, defScope s_step_fits, [], []⟩
def d_house_fits : He.DefD := ⟨("house_fits", none), "house_fits", "house_fits", defArgs s_house_fits, defBody s_house_fits, defScope s_house_fits, [], []⟩
def d_check_house : He.DefD := ⟨("check_house", none), "check_house", "check_house", defArgs s_check_house, defBody s_check_house, defScope s_check_house, [], []⟩
def d_needs_between : He.DefD := ⟨("needs_between", none), "needs_between", "needs_between", defArgs s_needs_between, defBody s_needs_between, defScope s_needs_between, [], []⟩
def d_is_place : He.DefD := ⟨("is_place", none), "is_place", "is_place", defArgs s_is_place, defBody s_is_place, defScope s_is_place, [], []⟩
def d_is_walk_in : He.DefD := ⟨("is_walk_in", none), "is_walk_in", "is_walk_in", defArgs s_is_walk_in, defBody s_is_walk_in, defScope s_is_walk_in, [], []⟩
def d_check_walks : He.DefD := ⟨("check_walks", none), "check_walks", "check_walks", defArgs s_check_walks, defBody s_check_walks, defScope s_check_walks, [], []⟩
def d_pressed_masks : He.DefD := ⟨("pressed_masks", none), "pressed_masks", "pressed_masks", defArgs s_pressed_masks, defBody s_pressed_masks, defScope s_pressed_masks, [], []⟩
def d_goes_on : He.DefD := ⟨("goes_on", none), "goes_on", "goes_on", defArgs s_goes_on, defBody s_goes_on, defScope s_goes_on, [], []⟩
def d_check_walk_number : He.DefD := ⟨("check_walk_number", none), "check_walk_number", "check_walk_number", defArgs s_check_walk_number, defBody s_check_walk_number, defScope s_check_walk_number, [], []⟩
def d_opened_in : He.DefD := ⟨("opened_in", none), "opened_in", "opened_in", defArgs s_opened_in, defBody s_opened_in, defScope s_opened_in, [], []⟩
def d_opened_by : He.DefD := ⟨("opened_by", none), "opened_by", "opened_by", defArgs s_opened_by, defBody s_opened_by, defScope s_opened_by, [], []⟩
def d_debts : He.DefD := ⟨("debts", none), "debts", "debts", defArgs s_debts, defBody s_debts, defScope s_debts, [], []⟩
def d_law_hash : He.DefD := ⟨("_law_hash", none), "_law_hash", "_law_hash", defArgs s_law_hash, defBody s_law_hash, defScope s_law_hash, [], []⟩
def d_law_random : He.DefD := ⟨("_law_random", none), "_law_random", "_law_random", defArgs s_law_random, defBody s_law_random, defScope s_law_random, [], []⟩
def d_law_cell : He.DefD := ⟨("_law_cell", none), "_law_cell", "_law_cell", defArgs s_law_cell, defBody s_law_cell, defScope s_law_cell, [], []⟩
def d_law_generator : He.DefD := ⟨("_law_generator", none), "_law_generator", "_law_generator", defArgs s_law_generator, defBody s_law_generator, defScope s_law_generator, [], []⟩
def d_law_same : He.DefD := ⟨("_law_same", none), "_law_same", "_law_same", defArgs s_law_same, defBody s_law_same, defScope s_law_same, [], []⟩
def d_law_lights : He.DefD := ⟨("_law_lights", none), "_law_lights", "_law_lights", defArgs s_law_lights, defBody s_law_lights, defScope s_law_lights, [], []⟩
def d_law_level : He.DefD := ⟨("_law_level", none), "_law_level", "_law_level", defArgs s_law_level, defBody s_law_level, defScope s_law_level, [], []⟩
def d_law_light : He.DefD := ⟨("_law_light", none), "_law_light", "_law_light", defArgs s_law_light, defBody s_law_light, defScope s_law_light, [], []⟩
def d_law_house : He.DefD := ⟨("_law_house", none), "_law_house", "_law_house", defArgs s_law_house, defBody s_law_house, defScope s_law_house, [], []⟩
def d_law_goals : He.DefD := ⟨("_law_goals", none), "_law_goals", "_law_goals", defArgs s_law_goals, defBody s_law_goals, defScope s_law_goals, [], []⟩
def d_law_walk : He.DefD := ⟨("_law_walk", none), "_law_walk", "_law_walk", defArgs s_law_walk, defBody s_law_walk, defScope s_law_walk, [], []⟩
def d_law_pressed : He.DefD := ⟨("_law_pressed", none), "_law_pressed", "_law_pressed", defArgs s_law_pressed, defBody s_law_pressed, defScope s_law_pressed, [], []⟩
def d_law_opens : He.DefD := ⟨("_law_opens", none), "_law_opens", "_law_opens", defArgs s_law_opens, defBody s_law_opens, defScope s_law_opens, [], []⟩
def d_law_open : He.DefD := ⟨("_law_open", none), "_law_open", "_law_open", defArgs s_law_open, defBody s_law_open, defScope s_law_open, [], []⟩
def d_law_opened : He.DefD := ⟨("_law_opened", none), "_law_opened", "_law_opened", defArgs s_law_opened, defBody s_law_opened, defScope s_law_opened, [], []⟩
def d_law_told_right : He.DefD := ⟨("_law_told_right", none), "_law_told_right", "_law_told_right", defArgs s_law_told_right, defBody s_law_told_right, defScope s_law_told_right, [], []⟩
def d_law_right : He.DefD := ⟨("_law_right", none), "_law_right", "_law_right", defArgs s_law_right, defBody s_law_right, defScope s_law_right, [], []⟩
def d_law : He.DefD := ⟨("law", none), "law", "law", defArgs s_law, defBody s_law, defScope s_law, [], []⟩
def fn : List He.DefD := [d_is_whole, d_is_between, d_is_room, d_is_lights, d_door_fits, d_level_fits, d_mask_of, d_masked_doors, d_sent_from, d_closed_at, d_light_of, d_step_fits, d_house_fits, d_check_house, d_needs_between, d_is_place, d_is_walk_in, d_check_walks, d_pressed_masks, d_goes_on, d_check_walk_number, d_opened_in, d_opened_by, d_debts, d_law_hash, d_law_random, d_law_cell, d_law_generator, d_law_same, d_law_lights, d_law_level, d_law_light, d_law_house, d_law_goals, d_law_walk, d_law_pressed, d_law_opens, d_law_open, d_law_opened, d_law_told_right, d_law_right, d_law]
def fa : List He.Fa := [.glo "is_whole", .glo "is_between", .glo "is_room", .glo "is_lights", .glo "door_fits", .glo "level_fits", .glo "mask_of", .glo "masked_doors", .glo "sent_from", .glo "closed_at", .glo "light_of", .glo "step_fits", .glo "house_fits", .glo "check_house", .glo "needs_between", .glo "is_place", .glo "is_walk_in", .glo "check_walks", .glo "pressed_masks", .glo "goes_on", .glo "check_walk_number", .glo "opened_in", .glo "opened_by", .glo "debts", .glo "_law_hash", .glo "_law_random", .glo "_law_cell", .glo "_law_generator", .glo "_law_same", .glo "_law_lights", .glo "_law_level", .glo "_law_light", .glo "_law_house", .glo "_law_goals", .glo "_law_walk", .glo "_law_pressed", .glo "_law_opens", .glo "_law_open", .glo "_law_opened", .glo "_law_told_right", .glo "_law_right", .glo "law", .free "isinstance", .free "int", .free "bool", .free "list", .free "tuple", .free "len", .free "range", .free "sum", .free "sorted", .free "enumerate", .free "zip", .free "max", .free "set", .free "repr"]
def loose1 : List PySem.Str := ["DoorError", "InvalidNumber", "InvalidHouse", "InvalidWalks", "is_whole", "is_between", "is_room", "is_lights", "door_fits", "level_fits", "mask_of", "masked_doors", "sent_from", "closed_at", "light_of", "step_fits", "house_fits", "check_house", "needs_between", "is_place", "is_walk_in", "check_walks", "pressed_masks", "goes_on", "check_walk_number", "opened_in", "opened_by", "debts", "_law_hash", "_law_random"]
def loose2 : List PySem.Str := ["_law_cell", "_law_generator", "_law_same", "_law_lights", "_law_level", "_law_light", "_law_house", "_law_goals", "_law_walk", "_law_pressed", "_law_opens", "_law_open", "_law_opened", "_law_told_right", "_law_right"]

/-! ### what the top has written -/
abbrev FnP (K : PySem.W.Frag) (x : Str) (st : Stmt) (f : Addr) (fd : FuncData) : Prop := FunD K x x (defArgs st) (defBody st) (defScope st) [] [] f fd
structure Bi (mg : Str → Option Value) : Prop where
  n_isinstance : mg "isinstance" = none
  n_int : mg "int" = none
  n_bool : mg "bool" = none
  n_list : mg "list" = none
  n_tuple : mg "tuple" = none
  n_len : mg "len" = none
  n_range : mg "range" = none
  n_sum : mg "sum" = none
  n_sorted : mg "sorted" = none
  n_enumerate : mg "enumerate" = none
  n_zip : mg "zip" = none
  n_max : mg "max" = none
  n_set : mg "set" = none
  n_repr : mg "repr" = none

structure Cf (K : PySem.W.Frag) (mg : Str → Option Value) : Prop extends Bi mg where
  d : He.SaysD fa fn K
  g_is_whole : mg "is_whole" = some (.ref (He.ga K "is_whole"))
  g_is_between : mg "is_between" = some (.ref (He.ga K "is_between"))
  g_is_room : mg "is_room" = some (.ref (He.ga K "is_room"))
  g_is_lights : mg "is_lights" = some (.ref (He.ga K "is_lights"))
  g_door_fits : mg "door_fits" = some (.ref (He.ga K "door_fits"))
  g_level_fits : mg "level_fits" = some (.ref (He.ga K "level_fits"))
  g_mask_of : mg "mask_of" = some (.ref (He.ga K "mask_of"))
  g_masked_doors : mg "masked_doors" = some (.ref (He.ga K "masked_doors"))
  g_sent_from : mg "sent_from" = some (.ref (He.ga K "sent_from"))
  g_closed_at : mg "closed_at" = some (.ref (He.ga K "closed_at"))
  g_light_of : mg "light_of" = some (.ref (He.ga K "light_of"))
  g_step_fits : mg "step_fits" = some (.ref (He.ga K "step_fits"))
  g_house_fits : mg "house_fits" = some (.ref (He.ga K "house_fits"))
  g_check_house : mg "check_house" = some (.ref (He.ga K "check_house"))
  g_needs_between : mg "needs_between" = some (.ref (He.ga K "needs_between"))
  g_is_place : mg "is_place" = some (.ref (He.ga K "is_place"))
  g_is_walk_in : mg "is_walk_in" = some (.ref (He.ga K "is_walk_in"))
  g_check_walks : mg "check_walks" = some (.ref (He.ga K "check_walks"))
  g_pressed_masks : mg "pressed_masks" = some (.ref (He.ga K "pressed_masks"))
  g_goes_on : mg "goes_on" = some (.ref (He.ga K "goes_on"))
  g_check_walk_number : mg "check_walk_number" = some (.ref (He.ga K "check_walk_number"))
  g_opened_in : mg "opened_in" = some (.ref (He.ga K "opened_in"))
  g_opened_by : mg "opened_by" = some (.ref (He.ga K "opened_by"))
  g_debts : mg "debts" = some (.ref (He.ga K "debts"))
  g_law_hash : mg "_law_hash" = some (.ref (He.ga K "_law_hash"))
  g_law_random : mg "_law_random" = some (.ref (He.ga K "_law_random"))
  g_law_cell : mg "_law_cell" = some (.ref (He.ga K "_law_cell"))
  g_law_generator : mg "_law_generator" = some (.ref (He.ga K "_law_generator"))
  g_law_same : mg "_law_same" = some (.ref (He.ga K "_law_same"))
  g_law_lights : mg "_law_lights" = some (.ref (He.ga K "_law_lights"))
  g_law_level : mg "_law_level" = some (.ref (He.ga K "_law_level"))
  g_law_light : mg "_law_light" = some (.ref (He.ga K "_law_light"))
  g_law_house : mg "_law_house" = some (.ref (He.ga K "_law_house"))
  g_law_goals : mg "_law_goals" = some (.ref (He.ga K "_law_goals"))
  g_law_walk : mg "_law_walk" = some (.ref (He.ga K "_law_walk"))
  g_law_pressed : mg "_law_pressed" = some (.ref (He.ga K "_law_pressed"))
  g_law_opens : mg "_law_opens" = some (.ref (He.ga K "_law_opens"))
  g_law_open : mg "_law_open" = some (.ref (He.ga K "_law_open"))
  g_law_opened : mg "_law_opened" = some (.ref (He.ga K "_law_opened"))
  g_law_told_right : mg "_law_told_right" = some (.ref (He.ga K "_law_told_right"))
  g_law_right : mg "_law_right" = some (.ref (He.ga K "_law_right"))
  g_law : mg "law" = some (.ref (He.ga K "law"))

theorem cf_of {K : PySem.W.Frag} {h : Heap} {mg : Str → Option Value} (X : K.In h) (G : h.Ns mainGlobals mg) (c : He.SaysD fa fn K) : Cf K mg :=
  { d := c
    g_is_whole := He.glo_ok X G (c.fact 0 (f := .glo "is_whole") rfl)
    g_is_between := He.glo_ok X G (c.fact 1 (f := .glo "is_between") rfl)
    g_is_room := He.glo_ok X G (c.fact 2 (f := .glo "is_room") rfl)
    g_is_lights := He.glo_ok X G (c.fact 3 (f := .glo "is_lights") rfl)
    g_door_fits := He.glo_ok X G (c.fact 4 (f := .glo "door_fits") rfl)
    g_level_fits := He.glo_ok X G (c.fact 5 (f := .glo "level_fits") rfl)
    g_mask_of := He.glo_ok X G (c.fact 6 (f := .glo "mask_of") rfl)
    g_masked_doors := He.glo_ok X G (c.fact 7 (f := .glo "masked_doors") rfl)
    g_sent_from := He.glo_ok X G (c.fact 8 (f := .glo "sent_from") rfl)
    g_closed_at := He.glo_ok X G (c.fact 9 (f := .glo "closed_at") rfl)
    g_light_of := He.glo_ok X G (c.fact 10 (f := .glo "light_of") rfl)
    g_step_fits := He.glo_ok X G (c.fact 11 (f := .glo "step_fits") rfl)
    g_house_fits := He.glo_ok X G (c.fact 12 (f := .glo "house_fits") rfl)
    g_check_house := He.glo_ok X G (c.fact 13 (f := .glo "check_house") rfl)
    g_needs_between := He.glo_ok X G (c.fact 14 (f := .glo "needs_between") rfl)
    g_is_place := He.glo_ok X G (c.fact 15 (f := .glo "is_place") rfl)
    g_is_walk_in := He.glo_ok X G (c.fact 16 (f := .glo "is_walk_in") rfl)
    g_check_walks := He.glo_ok X G (c.fact 17 (f := .glo "check_walks") rfl)
    g_pressed_masks := He.glo_ok X G (c.fact 18 (f := .glo "pressed_masks") rfl)
    g_goes_on := He.glo_ok X G (c.fact 19 (f := .glo "goes_on") rfl)
    g_check_walk_number := He.glo_ok X G (c.fact 20 (f := .glo "check_walk_number") rfl)
    g_opened_in := He.glo_ok X G (c.fact 21 (f := .glo "opened_in") rfl)
    g_opened_by := He.glo_ok X G (c.fact 22 (f := .glo "opened_by") rfl)
    g_debts := He.glo_ok X G (c.fact 23 (f := .glo "debts") rfl)
    g_law_hash := He.glo_ok X G (c.fact 24 (f := .glo "_law_hash") rfl)
    g_law_random := He.glo_ok X G (c.fact 25 (f := .glo "_law_random") rfl)
    g_law_cell := He.glo_ok X G (c.fact 26 (f := .glo "_law_cell") rfl)
    g_law_generator := He.glo_ok X G (c.fact 27 (f := .glo "_law_generator") rfl)
    g_law_same := He.glo_ok X G (c.fact 28 (f := .glo "_law_same") rfl)
    g_law_lights := He.glo_ok X G (c.fact 29 (f := .glo "_law_lights") rfl)
    g_law_level := He.glo_ok X G (c.fact 30 (f := .glo "_law_level") rfl)
    g_law_light := He.glo_ok X G (c.fact 31 (f := .glo "_law_light") rfl)
    g_law_house := He.glo_ok X G (c.fact 32 (f := .glo "_law_house") rfl)
    g_law_goals := He.glo_ok X G (c.fact 33 (f := .glo "_law_goals") rfl)
    g_law_walk := He.glo_ok X G (c.fact 34 (f := .glo "_law_walk") rfl)
    g_law_pressed := He.glo_ok X G (c.fact 35 (f := .glo "_law_pressed") rfl)
    g_law_opens := He.glo_ok X G (c.fact 36 (f := .glo "_law_opens") rfl)
    g_law_open := He.glo_ok X G (c.fact 37 (f := .glo "_law_open") rfl)
    g_law_opened := He.glo_ok X G (c.fact 38 (f := .glo "_law_opened") rfl)
    g_law_told_right := He.glo_ok X G (c.fact 39 (f := .glo "_law_told_right") rfl)
    g_law_right := He.glo_ok X G (c.fact 40 (f := .glo "_law_right") rfl)
    g_law := He.glo_ok X G (c.fact 41 (f := .glo "law") rfl)
    n_isinstance := He.free_ok X G (c.fact 42 (f := .free "isinstance") rfl)
    n_int := He.free_ok X G (c.fact 43 (f := .free "int") rfl)
    n_bool := He.free_ok X G (c.fact 44 (f := .free "bool") rfl)
    n_list := He.free_ok X G (c.fact 45 (f := .free "list") rfl)
    n_tuple := He.free_ok X G (c.fact 46 (f := .free "tuple") rfl)
    n_len := He.free_ok X G (c.fact 47 (f := .free "len") rfl)
    n_range := He.free_ok X G (c.fact 48 (f := .free "range") rfl)
    n_sum := He.free_ok X G (c.fact 49 (f := .free "sum") rfl)
    n_sorted := He.free_ok X G (c.fact 50 (f := .free "sorted") rfl)
    n_enumerate := He.free_ok X G (c.fact 51 (f := .free "enumerate") rfl)
    n_zip := He.free_ok X G (c.fact 52 (f := .free "zip") rfl)
    n_max := He.free_ok X G (c.fact 53 (f := .free "max") rfl)
    n_set := He.free_ok X G (c.fact 54 (f := .free "set") rfl)
    n_repr := He.free_ok X G (c.fact 55 (f := .free "repr") rfl)
  }
/-- a def keeps its promise -/
def Ok (P : Program) (w : World) (K : PySem.W.Frag) (mg : Str → Option Value) (base : Heap) (k : Nat) (name : Str) (ps : List Str) (sp : Sp) : Prop :=
  mg name = some (.ref (He.ga K name)) ∧ ∃ fd, FnOk P w K mg base CX0 k (He.ga K name) fd ps sp ∧ Binds K fd ps [] ∧ PySem.W.keepIn K (.ref (He.ga K name)) = true
def OkG (P : Program) (w : World) (K : PySem.W.Frag) (mg : Str → Option Value) (base : Heap) (k : Nat) (name : Str) (ps : List Str) (sp : Sp) : Prop :=
  mg name = some (.ref (He.ga K name)) ∧ ∃ fd, FnOkG P w K mg base CX0 k (He.ga K name) fd ps sp ∧ Binds K fd ps [] ∧ PySem.W.keepIn K (.ref (He.ga K name)) = true
section
variable {X : Cx} {k j : Nat} {name : Str} {ps : List Str} {sp : Sp} {p pos : Pos} {e : Expr} {es : List Expr} {t : TA}
/-- f(e, ..) by its promise -/
theorem pe_c (O : Ok X.prog X.w X.K X.mg X.base k name ps sp) (hr : Room j X.A) (ha : PA X (e :: es) t) (hk : k ≤ j := by decide) (hg : Gl X name := by rfl)
    (hdb : (name == ("__debug__" : Str)) = false := by decide) (he : starEach (e :: es) X.env = (false, eval e X.env) :: starEach es X.env := by rfl) (hpl : (backTo pos (starEach es X.env)).any (·.1) = false := by rfl) :
    PE X (.Call (.Name name p) (e :: es) [] pos) (tCall sp [] E0 t) := by
  obtain ⟨gm, fd, F, b, kp⟩ := O
  exact pe_call F (hr.mono hk) hg gm kp b .nil pass0 ha hdb he hpl
theorem pe_cG (O : OkG X.prog X.w X.K X.mg X.base k name ps sp) (hr : Room j X.A) (hgd : X.A.guards = some []) (ha : PA X (e :: es) t) (hk : k ≤ j := by decide) (hg : Gl X name := by rfl)
    (hdb : (name == ("__debug__" : Str)) = false := by decide) (he : starEach (e :: es) X.env = (false, eval e X.env) :: starEach es X.env := by rfl) (hpl : (backTo pos (starEach es X.env)).any (·.1) = false := by rfl) :
    PE X (.Call (.Name name p) (e :: es) [] pos) (tCall sp [] E0 t) := by
  obtain ⟨gm, fd, F, b, kp⟩ := O
  exact pe_callG F (hr.mono hk) hgd hg gm kp b pass0 ha hdb he hpl
end
/-! ### rules by a written part that is named (within a comprehension's block) -/
section
variable {X : Cx} {K : PySem.W.Frag}
theorem ix_listK (h : X.K = K) : IxR X (rIxL K) := h ▸ ix_list
theorem ix_tupK (h : X.K = K) : IxR X (rIxT K) := h ▸ ix_tup
theorem op_eqDK (h : X.K = K) (hu : X.A.units + 64 < cLine) : OpR X (compareOp .Eq) (rEqD K) := h ▸ op_eqD hu
theorem op_neDK (h : X.K = K) (hu : X.A.units + 64 < cLine) : OpR X (compareOp .NotEq) (rNeD K) := h ▸ op_neD hu
theorem op_inK (h : X.K = K) : OpR X (compareOp .In) (rIn K false) := h ▸ op_in_seq
theorem op_notInK (h : X.K = K) : OpR X (compareOp .NotIn) (rIn K true) := h ▸ op_notIn_seq
theorem call_lenK (h : X.K = K) : CallR X (.builtin "len") (fun xs H Q => ∃ p ys, xs = [.ref p] ∧ (SqL K H p ys ∨ SqT K H p ys) ∧ Q (.int ys.length) H) := h ▸ call_len_seq
theorem call_listK (h : X.K = K) : CallR X (.type "list") (fun xs H Q => ∃ p ys, xs = [.ref p] ∧ (SqL K H p ys ∨ SqT K H p ys) ∧ ∀ l, H l = none → Q (.ref l) (upd H l (.lst ys))) := h ▸ call_list_of
theorem sl_listK (h : X.K = K) : SlR X (rSlL K) := h ▸ sl_list
theorem pg_tupK {es : List Expr} {k : Nat} {t : TGs} {n : Nat} {pos : Pos} (h : X.K = K) (hc : X.calm = true) (hp : PGs X es t)
    (hn : (assignEach es X.env).length = n := by rfl) (hst : (assignEach es X.env).findIdx? (·.1) = none := by rfl) : PG X (.Tuple es k pos) (gTup K n t) := h ▸ pg_tup hc hp hn hst
end
/-! ### heaps -/
/-- all but what stands at D -/
def hid (D : Addr) (H : Hp) : Hp := fun a => if a = D then none else H a
theorem hid_same (D : Addr) (H : Hp) : Same (hid D H) H := fun b o e => by
  unfold hid at e
  split at e
  · cases e
  · exact e
theorem hid_at (D : Addr) (H : Hp) : hid D H D = none := if_pos rfl
theorem hid_ne {D a : Addr} {H : Hp} (h : a ≠ D) : hid D H a = H a := if_neg h
theorem hid_upd (D : Addr) (H : Hp) (o : HO) : hid D (upd H D o) = hid D H := funext fun b => by
  unfold hid
  split
  · rfl
  · exact upd_ne (by assumption)
theorem same_upd {H : Hp} {p : Addr} {o : HO} (h : H p = none) : Same H (upd H p o) := fun b x e => by
  rw [upd_ne (ne_of_none e h)]
  exact e
theorem same_hid {D : Addr} {H H' : Hp} (s : Same H H') (h : H D = none) : Same H (hid D H') := fun b o e => by
  rw [hid_ne (ne_of_none e h)]
  exact s b o e
/-- a step that leaves the list at D where it is -/
theorem hid_mono {D : Addr} {H H' : Hp} (s : Same H H') : Same (hid D H) (hid D H') := fun b o e => by
  by_cases hb : b = D
  · rw [hb, hid_at] at e
    cases e
  · rw [hid_ne hb] at e ⊢
    exact s b o e
/-- the list at D gets another content -/
theorem same_put {D : Addr} {H0 H : Hp} {o : HO} (s : Same H0 H) (h : H0 D = none) : Same H0 (upd H D o) := fun b x e => by
  rw [upd_ne (ne_of_none e h)]
  exact s b x e
theorem same_seqT {K : PySem.W.Frag} {H H' : Hp} {a : Addr} {xs : List V} (e : Same H H') (h : SqT K H a xs) : SqT K H' a xs := by
  rcases h with (h | ⟨o, h⟩) | h
  · exact .inl (.inl (e _ _ h))
  · exact .inl (.inr ⟨o, e _ _ h⟩)
  · exact .inr h
/-! ### data -/
section
variable {K : PySem.W.Frag} {H H' : Hp}
mutual
theorem dp_mono (s : Same H H') : ∀ {v : V} {d : PyData}, Dp K H v d → Dp K H' v d
  | _, _, .non => .non
  | _, _, .bl b => .bl b
  | _, _, .int i => .int i
  | _, _, .str x => .str x
  | _, _, .lst h a => .lst (s.seq h) (dpAll_mono s a)
  | _, _, .tup h a => .tup (same_seqT s h) (dpAll_mono s a)
theorem dpAll_mono (s : Same H H') : ∀ {vs : List V} {ds : List PyData}, DpAll K H vs ds → DpAll K H' vs ds
  | _, _, .nil => .nil
  | _, _, .cons h t => .cons (dp_mono s h) (dpAll_mono s t)
end
theorem dp_list {v : V} {ds : List PyData} (h : Dp K H v (.list ds)) : ∃ a xs, v = .ref a ∧ SqL K H a xs ∧ DpAll K H xs ds := by
  cases h with
  | lst h a => exact ⟨_, _, rfl, h, a⟩
theorem dp_tup {v : V} {ds : List PyData} (h : Dp K H v (.tuple ds)) : ∃ a xs, v = .ref a ∧ SqT K H a xs ∧ DpAll K H xs ds := by
  cases h with
  | tup h a => exact ⟨_, _, rfl, h, a⟩
theorem dp_int {v : V} {i : Int} (h : Dp K H v (.int i)) : v = .int i := by
  cases h
  rfl
theorem dpAll_len : ∀ {xs : List V} {ds : List PyData}, DpAll K H xs ds → xs.length = ds.length
  | _, _, .nil => rfl
  | _, _, .cons _ t => congrArg Nat.succ (dpAll_len t)
theorem dpAll_get : ∀ {xs : List V} {ds : List PyData} {i : Nat} {d : PyData}, DpAll K H xs ds → ds[i]? = some d → ∃ x, xs[i]? = some x ∧ Dp K H x d
  | _, _, _, _, .nil, e => by simp at e
  | _, _, 0, _, .cons h _, e => by
    simp at e
    subst e
    exact ⟨_, rfl, h⟩
  | _, _, i + 1, d, .cons _ t, e => by
    obtain ⟨x, h1, h2⟩ := dpAll_get (i := i) t (by simpa using e)
    exact ⟨x, by simpa using h1, h2⟩
theorem dpAll_at {xs : List V} {ds : List PyData} {i : Nat} {x : V} (h : DpAll K H xs ds) (e : xs[i]? = some x) : ∃ d, ds[i]? = some d ∧ Dp K H x d := by
  have hi := (List.getElem?_eq_some_iff.mp e).1
  have hl := dpAll_len h
  obtain ⟨y, h1, h2⟩ := dpAll_get h (List.getElem?_eq_getElem (show i < ds.length by omega))
  rw [e] at h1
  cases h1
  exact ⟨_, List.getElem?_eq_getElem (by omega), h2⟩
theorem dpAll_app : ∀ {xs ys : List V} {ds es : List PyData}, DpAll K H xs ds → DpAll K H ys es → DpAll K H (xs ++ ys) (ds ++ es)
  | _, _, _, _, .nil, h => h
  | _, _, _, _, .cons a t, h => .cons a (dpAll_app t h)
theorem dpAll_snoc {xs : List V} {ds : List PyData} {x : V} {d : PyData} (h : DpAll K H xs ds) (q : Dp K H x d) : DpAll K H (xs ++ [x]) (ds ++ [d]) := dpAll_app h (.cons q .nil)
theorem tyL {a : Addr} {xs : List V} (h : SqL K H a xs) : TyX K H (.ref a) (.type "list") := by
  rcases h with (h | ⟨o, h⟩) | ⟨o, its, n, h1, h2, _⟩
  · exact .base (.lst h)
  · exact .base (.frz h)
  · exact .kList h1 h2
theorem tyT {a : Addr} {xs : List V} (h : SqT K H a xs) : TyX K H (.ref a) (.type "tuple") := by
  rcases h with (h | ⟨o, h⟩) | ⟨o, its, n, h1, h2, _⟩
  · exact .base (.tup h)
  · exact .fTuple h
  · exact .kTuple h1 h2
/-- whole numbers from 0 on -/
abbrev vN (n : Nat) : V := .int n
abbrev iN (n : Nat) : PyData := .int n
def lN (l : List Nat) : PyData := .list (l.map iN)
theorem dpAll_N : ∀ l : List Nat, DpAll K H (l.map vN) (l.map iN)
  | [] => .nil
  | m :: l => .cons (.int m) (dpAll_N l)
theorem dpAll_N_inv : ∀ {l : List Nat} {xs : List V}, DpAll K H xs (l.map iN) → xs = l.map vN
  | [], _, h => by cases h; rfl
  | m :: l, _, h => by
    cases h with
    | cons h1 h2 => rw [dp_int h1, dpAll_N_inv h2, List.map_cons]
theorem dp_lN {v : V} {l : List Nat} (h : Dp K H v (lN l)) : ∃ a, v = .ref a ∧ SqL K H a (l.map vN) := by
  obtain ⟨a, xs, rfl, hs, ha⟩ := dp_list h
  rw [dpAll_N_inv ha] at hs
  exact ⟨a, rfl, hs⟩
theorem dp_lN_mk {a : Addr} {l : List Nat} (h : SqL K H a (l.map vN)) : Dp K H (.ref a) (lN l) := .lst h (dpAll_N l)
end
def Dr.data (d : Dr) : PyData := .tuple [lN d.needs, iN d.room, .int d.shift]
def Stp.data (s : Stp) : PyData := .tuple [iN s.place, iN s.goal, lN s.needs]
def levelD (rooms : Nat) (doors : List Dr) : PyData := .tuple [iN rooms, .list (doors.map Dr.data)]
def Hs.data (h : Hs) : PyData := .tuple [levelD h.rooms h.doors, .list (h.plates.map lN), .list (h.steps.map Stp.data)]
def walksD (ws : List (List Nat)) : PyData := .list (ws.map lN)
section
variable {K : PySem.W.Frag} {H : Hp} {v : V}
theorem dp_tup2 {a b : PyData} (h : Dp K H v (.tuple [a, b])) : ∃ p x y, v = .ref p ∧ SqT K H p [x, y] ∧ Dp K H x a ∧ Dp K H y b := by
  obtain ⟨p, xs, rfl, hs, ha⟩ := dp_tup h
  cases ha with
  | cons h1 t =>
    cases t with
    | cons h2 t =>
      cases t
      exact ⟨p, _, _, rfl, hs, h1, h2⟩
theorem dp_tup3 {a b c : PyData} (h : Dp K H v (.tuple [a, b, c])) : ∃ p x y z, v = .ref p ∧ SqT K H p [x, y, z] ∧ Dp K H x a ∧ Dp K H y b ∧ Dp K H z c := by
  obtain ⟨p, xs, rfl, hs, ha⟩ := dp_tup h
  cases ha with
  | cons h1 t =>
    cases t with
    | cons h2 t =>
      cases t with
      | cons h3 t =>
        cases t
        exact ⟨p, _, _, _, rfl, hs, h1, h2, h3⟩
theorem dp_door {d : Dr} (h : Dp K H v d.data) : ∃ p n, v = .ref p ∧ SqT K H p [.ref n, vN d.room, .int d.shift] ∧ SqL K H n (d.needs.map vN) := by
  obtain ⟨p, x, y, z, rfl, hs, h1, h2, h3⟩ := dp_tup3 h
  obtain ⟨n, rfl, hn⟩ := dp_lN h1
  rw [dp_int h2, dp_int h3] at hs
  exact ⟨p, n, rfl, hs, hn⟩
theorem dp_stp {s : Stp} (h : Dp K H v s.data) : ∃ p n, v = .ref p ∧ SqT K H p [vN s.place, vN s.goal, .ref n] ∧ SqL K H n (s.needs.map vN) := by
  obtain ⟨p, x, y, z, rfl, hs, h1, h2, h3⟩ := dp_tup3 h
  obtain ⟨n, rfl, hn⟩ := dp_lN h3
  rw [dp_int h1, dp_int h2] at hs
  exact ⟨p, n, rfl, hs, hn⟩
theorem dp_level {R : Nat} {ds : List Dr} (h : Dp K H v (levelD R ds)) : ∃ p q xs, v = .ref p ∧ SqT K H p [vN R, .ref q] ∧ SqL K H q xs ∧ DpAll K H xs (ds.map Dr.data) := by
  obtain ⟨p, x, y, rfl, hs, h1, h2⟩ := dp_tup2 h
  obtain ⟨q, xs, rfl, hq, ha⟩ := dp_list h2
  rw [dp_int h1] at hs
  exact ⟨p, q, xs, rfl, hs, hq, ha⟩
theorem dp_house {h : Hs} (q : Dp K H v h.data) : ∃ p lv a ps b ss, v = .ref p ∧ SqT K H p [lv, .ref a, .ref b] ∧ Dp K H lv (levelD h.rooms h.doors) ∧ SqL K H a ps ∧ DpAll K H ps (h.plates.map lN) ∧ SqL K H b ss ∧ DpAll K H ss (h.steps.map Stp.data) := by
  obtain ⟨p, x, y, z, rfl, hs, h1, h2, h3⟩ := dp_tup3 q
  obtain ⟨a, ps, rfl, ha, hpa⟩ := dp_list h2
  obtain ⟨b, ss, rfl, hb, hsb⟩ := dp_list h3
  exact ⟨p, x, a, ps, b, ss, rfl, hs, h1, ha, hpa, hb, hsb⟩
end
/-! ### what is a house, a walk -/
def Lights (R : Nat) (l : List Nat) : Prop := l.Pairwise (· < ·) ∧ (∀ x ∈ l, x < R) ∧ l.length ≤ 100
structure DrOk (R : Nat) (d : Dr) : Prop where
  needs : Lights R d.needs
  room : d.room < R
  shift : d.shift = -1 ∨ d.shift = 0 ∨ d.shift = 1
structure StpOk (R n : Nat) (s : Stp) : Prop where
  place : s.place < n
  goal : s.goal < n
  ne : s.place ≠ s.goal
  needs : Lights R s.needs
structure HsOk (h : Hs) : Prop where
  rooms : 1 ≤ h.rooms
  few : h.rooms ≤ 100
  doors : ∀ d ∈ h.doors, DrOk h.rooms d
  dfew : h.doors.length ≤ 100
  plates : ∀ l ∈ h.plates, Lights h.rooms l
  some_ : h.plates ≠ []
  pfew : h.plates.length ≤ 100
  steps : ∀ s ∈ h.steps, StpOk h.rooms h.plates.length s
  sfew : h.steps.length ≤ 100
structure WalkOk (h : Hs) (w : List Nat) : Prop where
  ne : w ≠ []
  few : w.length ≤ 100
  places : ∀ x ∈ w, x < h.plates.length
  go : ∀ i a b, w[i]? = some a → w[i + 1]? = some b → a = b ∨ ∃ s ∈ h.steps, s.place = a ∧ s.goal = b
def WalksOk (h : Hs) (ws : List (List Nat)) : Prop := (∀ w ∈ ws, WalkOk h w) ∧ ws.length ≤ 100
/-- data without dicts and texts, nested at most so deep -/
structure Tame (n : Nat) (d : PyData) : Prop where
  lay : d.canLay0 = true
  dep : d.depth ≤ n
theorem Tame.mono {n m : Nat} {d : PyData} (h : Tame n d) (k : n ≤ m) : Tame m d := ⟨h.lay, Nat.le_trans h.dep k⟩
theorem tame_int (i : Int) : Tame 0 (.int i) := ⟨by simp [PyData.canLay0], by simp [PyData.depth]⟩
theorem tame_non : Tame 0 .none := ⟨by simp [PyData.canLay0], by simp [PyData.depth]⟩
theorem tame_all {n : Nat} : ∀ {ds : List PyData}, (∀ d ∈ ds, Tame n d) → PyData.canLayAll0 ds = true ∧ PyData.depthAll ds ≤ n
  | [], _ => ⟨by simp [PyData.canLayAll0], by simp [PyData.depthAll]⟩
  | d :: ds, h => by
    obtain ⟨h1, h2⟩ := tame_all (ds := ds) fun x hx => h x (List.mem_cons_of_mem _ hx)
    have h0 := h d (List.mem_cons_self ..)
    refine ⟨by simp [PyData.canLayAll0, h0.lay, h1], ?_⟩
    have := h0.dep
    simp only [PyData.depthAll]
    omega
theorem tame_list {n : Nat} {ds : List PyData} (h : ∀ d ∈ ds, Tame n d) : Tame (n + 1) (.list ds) := by
  obtain ⟨h1, h2⟩ := tame_all h
  exact ⟨by simpa [PyData.canLay0] using h1, by simpa [PyData.depth] using h2⟩
theorem tame_tuple {n : Nat} {ds : List PyData} (h : ∀ d ∈ ds, Tame n d) : Tame (n + 1) (.tuple ds) := by
  obtain ⟨h1, h2⟩ := tame_all h
  exact ⟨by simpa [PyData.canLay0] using h1, by simpa [PyData.depth] using h2⟩
theorem Tame.shaped {n : Nat} {d : PyData} (h : Tame n d) (k : n ≤ 64) : SeqAt.shaped d = true := by
  have := h.dep
  simp [SeqAt.shaped, h.lay, show d.depth ≤ 64 by omega]
theorem tame_lN (l : List Nat) : Tame 1 (lN l) := tame_list fun d hd => by
  obtain ⟨n, _, rfl⟩ := List.mem_map.mp hd
  exact tame_int n
theorem tame_lNN (l : List (List Nat)) : Tame 2 (.list (l.map lN)) := tame_list fun d hd => by
  obtain ⟨n, _, rfl⟩ := List.mem_map.mp hd
  exact tame_lN n
theorem map_get {α β : Type} {f : α → β} {l : List α} {i : Nat} {x : β} (h : (l.map f)[i]? = some x) : ∃ y, l[i]? = some y ∧ x = f y := by
  rw [List.getElem?_map] at h
  cases e : l[i]? with
  | none => rw [e] at h; cases h
  | some y => rw [e] at h; exact ⟨y, rfl, (Option.some.inj h).symm⟩
theorem ixn {xs : List V} {z : Int} {j : Nat} {v : V} (e : z = (j : Int)) (h : xs[j]? = some v) : atI xs z = some v := at_of e h
theorem nil_dp {K : PySem.W.Frag} {H : Hp} {a : Addr} (h : H a = some (.lst [])) : Dp K H (.ref a) (.list []) := .lst (.inl (.inl h)) .nil
theorem lt62 {n : Nat} (h : n ≤ 1000) : (n : Int) < 2 ^ 62 := by
  have : (n : Int) ≤ 1000 := by omega
  exact Int.lt_of_le_of_lt this (by decide)
theorem ge62 {i : Int} (h : -1000 ≤ i) : -(2 ^ 62) ≤ i := Int.le_trans (by decide) h
theorem ge62' {i : Int} (h : -1000 ≤ i) : -(2 ^ 63) ≤ i := Int.le_trans (by decide) h
theorem li63 {i : Int} (h : i ≤ 1000) : i < 2 ^ 63 := Int.lt_of_le_of_lt h (by decide)
theorem li62 {i : Int} (h : i ≤ 1000) : i < 2 ^ 62 := Int.lt_of_le_of_lt h (by decide)
theorem itP {c : Bool} {A B : Prop} (h : c = true) (a : A) : if c = true then A else B := by
  rw [if_pos h]
  exact a
theorem itN {c : Bool} {A B : Prop} (h : c = false) (b : B) : if c = true then A else B := by
  rw [if_neg (by rw [h]; exact Bool.false_ne_true)]
  exact b
theorem le1000 {n : Nat} (h : n ≤ 1000) : n ≤ sizeLine := Nat.le_trans h (by decide)
theorem small100 {n : Nat} (h : n ≤ 100) : n < sizeLine := Nat.lt_of_le_of_lt h (by decide)
end K30

/-! #### A -/
namespace K30
open PySem PySem.Spec PyProof.Rows L2
section
variable {P : Program} {w : World} {K : PySem.W.Frag} {mg : Str → Option Value} {base : Heap}
def sp_is_whole (K : PySem.W.Frag) : Sp := fun vs H Q _ => ∃ i : Int, vs = [.int i] ∧ Q (.bl true) H
theorem sc_is_whole : FnScope ["value"] ["value"] (defScope s_is_whole) := ⟨rfl, rfl, rfl, by decide +kernel, rfl, by decide +kernel, by decide +kernel⟩
theorem ok_is_whole (c : Cf K mg)  : Ok P w K mg base 1 "is_whole" ["value"] (sp_is_whole K) := by
  obtain ⟨fd, F⟩ := c.d.def_ 0 (d := d_is_whole) rfl
  refine ⟨c.g_is_whole, fd, ?_, FunD.bindsN F (fun _ _ _ _ _ _ us hl => match us, hl with | [_], _ => rfl), F.kp⟩
  refine okN F sc_is_whole (fun vs H Q E h => ?_) (fun cdv A outer s H vs Q E hr h => ?_)
  · obtain ⟨i, rfl, _⟩ := h
    rfl
  · obtain ⟨i, rfl, q⟩ := h
    refine ⟨_, (pss_one (ps_ret (pe_and (pe_callB call_isi (by rfl) c.n_isinstance boot_isinstance (pa_cons (pv 0) (pa_cons (pe_bltn (v := .ty "int") (by rfl) c.n_int boot_int rfl) pa_nil))) (pe_one (pe_not (pe_callB call_isi (by rfl) c.n_isinstance boot_isinstance (pa_cons (pv 0) (pa_cons (pe_bltn (v := .ty "bool") (by rfl) c.n_bool boot_bool rfl) pa_nil)))))))), ?_⟩
    refine ⟨_, rfl, _, _, _, _, _, rfl, .ty "int", .base (.int i), kit_ty (r := true) (by decide +kernel), _, rfl, ?_⟩
    exact iteT ⟨_, rfl, _, _, _, _, _, rfl, .ty "bool", .base (.int i), kit_ty (r := false) (by decide +kernel), _, rfl, q⟩
/-- a bound that may be None -/
def loB (x : V) (i : Int) : Prop := x = .non ∨ ∃ j : Int, x = .int j ∧ j ≤ i
def hiB (x : V) (i : Int) : Prop := x = .non ∨ ∃ j : Int, x = .int j ∧ i ≤ j
def sp_is_between (K : PySem.W.Frag) : Sp := fun vs H Q _ => ∃ (i : Int) (a b : V), vs = [.int i, a, b] ∧ loB a i ∧ hiB b i ∧ Q (.bl true) H
theorem sc_is_between : FnScope ["value", "low", "high"] ["value", "low", "high"] (defScope s_is_between) := ⟨rfl, rfl, rfl, by decide +kernel, rfl, by decide +kernel, by decide +kernel⟩
theorem ok_is_between (c : Cf K mg) (O_is_whole : Ok P w K mg base 1 "is_whole" ["value"] (sp_is_whole K)) : Ok P w K mg base 2 "is_between" ["value", "low", "high"] (sp_is_between K) := by
  obtain ⟨fd, F⟩ := c.d.def_ 1 (d := d_is_between) rfl
  refine ⟨c.g_is_between, fd, ?_, FunD.bindsN F (fun _ _ _ _ _ _ us hl => match us, hl with | [_, _, _], _ => rfl), F.kp⟩
  refine okN F sc_is_between (fun vs H Q E h => ?_) (fun cdv A outer s H vs Q E hr h => ?_)
  · obtain ⟨i, a, b, rfl, _⟩ := h
    rfl
  · obtain ⟨i, a, b, rfl, ha, hb, q⟩ := h
    refine ⟨_, (pss_cons (ps_if (pt_not (pt_val (pe_c O_is_whole hr (pa_cons (pv 0) pa_nil)))) (pss_one (ps_ret pe_bl)) pss_nil)
      (pss_one (ps_ret (pe_and (pe_or (pe_cmpR op_isN (pv 1) pe_non (nomark _)) (pe_one (pe_cmpR op_ge (pv 0) (pv 1) (nomark _)))) (pe_one (pe_or (pe_cmpR op_isN (pv 2) pe_non (nomark _)) (pe_one (pe_cmpR op_le (pv 0) (pv 2) (nomark _))))))))), ?_⟩
    refine ⟨_, rfl, i, rfl, _, rfl, iteF ?_⟩
    have right : (tOrV (tOp (fun x y H Q => y = V.non ∧ Q (V.bl (decide (x = V.non))) H) (tVar 2) (tC V.non)) (tOp (rI0 fun i j => V.bl (decide (i ≤ j))) (tVar 0) (tVar 2))) [some (.int i), some a, some b] H Q := by
      rcases hb with rfl | ⟨j, rfl, hj⟩
      · exact ⟨_, rfl, rfl, _, rfl, itP rfl q⟩
      · refine ⟨_, rfl, rfl, _, rfl, itN rfl ⟨_, rfl, _, rfl, _, _, rfl, rfl, ?_⟩⟩
        show Q (V.bl (decide (i ≤ j))) H
        rw [decide_eq_true hj]
        exact q
    rcases ha with rfl | ⟨j, rfl, hj⟩
    · exact ⟨_, rfl, rfl, _, rfl, itP rfl ⟨_, rfl, iteT right⟩⟩
    · refine ⟨_, rfl, rfl, _, rfl, itN rfl ⟨_, rfl, _, rfl, _, _, rfl, rfl, ?_⟩⟩
      exact ⟨_, rfl, itP (decide_eq_true hj) right⟩
def sp_is_room (K : PySem.W.Frag) : Sp := fun vs H Q _ => ∃ i R : Nat, vs = [vN R, vN i] ∧ i < R ∧ Q (.bl true) H
theorem sc_is_room : FnScope ["rooms", "value"] ["rooms", "value"] (defScope s_is_room) := ⟨rfl, rfl, rfl, by decide +kernel, rfl, by decide +kernel, by decide +kernel⟩
theorem ok_is_room (c : Cf K mg) (O_is_between : Ok P w K mg base 2 "is_between" ["value", "low", "high"] (sp_is_between K)) : Ok P w K mg base 3 "is_room" ["rooms", "value"] (sp_is_room K) := by
  obtain ⟨fd, F⟩ := c.d.def_ 2 (d := d_is_room) rfl
  refine ⟨c.g_is_room, fd, ?_, FunD.bindsN F (fun _ _ _ _ _ _ us hl => match us, hl with | [_, _], _ => rfl), F.kp⟩
  refine okN F sc_is_room (fun vs H Q E h => ?_) (fun cdv A outer s H vs Q E hr h => ?_)
  · obtain ⟨i, R, rfl, _⟩ := h
    rfl
  · obtain ⟨i, R, rfl, hi, q⟩ := h
    refine ⟨_, (pss_one (ps_ret (pe_c O_is_between hr (pa_cons (pv 1) (pa_cons pe_int (pa_cons (pe_op op_sub (pv 0) pe_int) pa_nil)))))), ?_⟩
    refine ⟨_, rfl, _, rfl, _, _, rfl, rfl, i, _, _, rfl, .inr ⟨0, rfl, by omega⟩, .inr ⟨_, rfl, by omega⟩, q⟩
/-- an empty list that was just made -/
theorem eqv_nil (l : List PyData) : PyData.eqv (.list l) (.list []) = l.isEmpty := by cases l <;> rfl
def sp_is_lights (K : PySem.W.Frag) : Sp := fun vs H Q _ => ∃ (R : Nat) (v : V) (l : List Nat), vs = [vN R, v] ∧ Dp K H v (lN l) ∧ Lights R l ∧ ∀ H', Same H H' → Q (.bl true) H'
theorem sc_is_lights : FnScope ["rooms", "value", "item", "at"] ["rooms", "value"] (defScope s_is_lights) := ⟨rfl, rfl, rfl, by decide +kernel, rfl, by decide +kernel, by decide +kernel⟩
theorem ok_is_lights (c : Cf K mg) (O_is_room : Ok P w K mg base 3 "is_room" ["rooms", "value"] (sp_is_room K)) : Ok P w K mg base 4 "is_lights" ["rooms", "value"] (sp_is_lights K) := by
  obtain ⟨fd, F⟩ := c.d.def_ 3 (d := d_is_lights) rfl
  refine ⟨c.g_is_lights, fd, ?_, FunD.bindsN F (fun _ _ _ _ _ _ us hl => match us, hl with | [_, _], _ => rfl), F.kp⟩
  refine okN F sc_is_lights (fun vs H Q E h => ?_) (fun cdv A outer s H vs Q E hr h => ?_)
  · obtain ⟨R, v, l, rfl, _⟩ := h
    rfl
  · obtain ⟨R, v, l, rfl, hv, hl, q⟩ := h
    refine ⟨_, (pss_cons (ps_if (PW.pt (pw_or (pt_not (pt_val (pe_callB call_isi (by rfl) c.n_isinstance boot_isinstance (pa_cons (pv 1) (pa_cons (pe_bltn (v := .ty "list") (by rfl) c.n_list boot_list rfl) pa_nil))))) (pw_or1 (pt_cmpR (op_neDK (K := K) rfl hr.units) (pe_lc (own := [("item", 2)]) (g := gName 2) (by rfl) sc_is_lights.nd (pi_list (pv 1)) (blkOk_by (own := [("item", 2)]) (N := ["rooms", "value", "item", "at"]) (sc := defScope s_is_lights) (by decide +kernel)) (fun _ _ _ _ _ => (pg_name (i := 2) sc_is_lights.nd rfl (Or.inl rfl))) (fun _ _ _ _ _ => (pts_one (pt_not (pt_val (pe_c O_is_room hr (pa_cons (pv 0) (pa_cons (pv 2) pa_nil))))))) (fun _ _ _ _ _ => (pv 2))) (pe_lst pa_nil) (nomark _))))) (pss_one (ps_ret pe_bl)) pss_nil)
      (pss_one (ps_ret (pe_cmpR (op_eqDK (K := K) rfl hr.units) (pe_lc (own := [("at", 3)]) (g := gName 3) (by rfl) sc_is_lights.nd (pi_range2 (by rfl) c.n_range (pa_cons pe_int (pa_cons (pe_callB (call_lenK (K := K) rfl) (by rfl) c.n_len boot_len (pa_cons (pv 1) pa_nil)) pa_nil))) (blkOk_by (own := [("at", 3)]) (N := ["rooms", "value", "item", "at"]) (sc := defScope s_is_lights) (by decide +kernel)) (fun _ _ _ _ _ => (pg_name (i := 3) sc_is_lights.nd rfl (Or.inl rfl))) (fun _ _ _ _ _ => (pts_one (pt_cmpR op_ge (pe_ix (ix_listK (K := K) rfl) (pv 1) (pe_op op_sub (pv 3) pe_int) (fun _ _ => rfl)) (pe_ix (ix_listK (K := K) rfl) (pv 1) (pv 3) (fun _ _ => rfl)) (nomark _)))) (fun _ _ _ _ _ => (pv 3))) (pe_lst pa_nil) (nomark _))))), ?_⟩
    obtain ⟨a, rfl, ha⟩ := dp_lN hv
    refine ⟨_, rfl, _, _, _, _, _, rfl, .ty "list", tyL ha, kit_ty (r := true) (by decide +kernel), _, rfl, iteF ?_⟩
    refine ⟨_, rfl, a, rfl, ⟨_, ha⟩, fun D hD => ?_⟩
    refine lc_list (xs := l.map vN) (fun i H' => Same H H' ∧ H' D = some (.lst [])) ⟨same_put (Same.refl H) hD, upd_same⟩ (fun i H' _ p => p.1.seq ha) ?_ ?_
    · rintro i x H1 hx ⟨s1, e1⟩
      obtain ⟨n, hn, rfl⟩ := map_get hx
      exact ⟨rfl, _, rfl, _, rfl, n, R, rfl, hl.2.1 n (List.mem_of_getElem? hn), _, rfl, iteF ⟨s1, e1⟩⟩
    · rintro H1 ⟨s1, e1⟩
      refine ⟨Nat.zero_le _, fun p hp => ⟨.list [], .list [], nil_dp (by rw [upd_ne (ne_of_none e1 hp)]; exact e1), nil_dp upd_same, by decide, by decide, _, rfl, iteF ?_⟩⟩
      have s2 : Same H (upd H1 p (.lst [])) := s1.trans (same_upd hp)
      have hlen := hl.2.2
      refine ⟨_, rfl, a, _, rfl, .inl (s2.seq ha), _, _, rfl, ⟨ge62 (by decide), li62 (by decide), ge62 (by omega), lt62 (by rw [List.length_map]; omega)⟩, fun D2 hD2 => ?_⟩
      refine lc_range (fun i H' => Same H H' ∧ H' D2 = some (.lst [])) ⟨s2.trans (same_upd hD2), upd_same⟩ ?_ ?_
      · rintro i H2 hi ⟨s3, e3⟩
        have hi' : i + 1 < l.length := by
          rw [List.length_map] at hi
          omega
        have h1 : (l.map vN)[i]? = some (vN l[i]) := by rw [List.getElem?_map, List.getElem?_eq_getElem (by omega)]; rfl
        have h2 : (l.map vN)[i + 1]? = some (vN l[i + 1]) := by rw [List.getElem?_map, List.getElem?_eq_getElem hi']; rfl
        have hlt : l[i] < l[i + 1] := List.pairwise_iff_getElem.mp hl.1 i (i + 1) (by omega) hi' (by omega)
        refine ⟨rfl, _, rfl, _, rfl, _, _, rfl, rfl, a, _, _, _, rfl, rfl, s3.seq ha, ixn (by omega) h1, _, rfl, _, rfl, a, _, _, _, rfl, rfl, s3.seq ha, ixn (by omega) h2, _, _, rfl, rfl, _, rfl, itN ?_ ⟨s3, e3⟩⟩
        exact decide_eq_false (by omega)
      · rintro H2 ⟨s3, e3⟩
        exact ⟨Nat.zero_le _, fun p2 hp2 => ⟨.list [], .list [], nil_dp (by rw [upd_ne (ne_of_none e3 hp2)]; exact e3), nil_dp upd_same, by decide, by decide, q _ (s3.trans (same_upd hp2))⟩⟩
/-- a value that is a tuple of n things -/
def sp_door_fits (K : PySem.W.Frag) : Sp := fun vs H Q _ => ∃ (R : Nat) (v : V) (d : Dr), vs = [vN R, v] ∧ Dp K H v d.data ∧ DrOk R d ∧ ∀ H', Same H H' → Q (.bl true) H'
theorem sc_door_fits : FnScope ["rooms", "value"] ["rooms", "value"] (defScope s_door_fits) := ⟨rfl, rfl, rfl, by decide +kernel, rfl, by decide +kernel, by decide +kernel⟩
theorem ok_door_fits (c : Cf K mg) (O_is_lights : Ok P w K mg base 4 "is_lights" ["rooms", "value"] (sp_is_lights K)) (O_is_room : Ok P w K mg base 3 "is_room" ["rooms", "value"] (sp_is_room K)) (O_is_between : Ok P w K mg base 2 "is_between" ["value", "low", "high"] (sp_is_between K)) : Ok P w K mg base 5 "door_fits" ["rooms", "value"] (sp_door_fits K) := by
  obtain ⟨fd, F⟩ := c.d.def_ 4 (d := d_door_fits) rfl
  refine ⟨c.g_door_fits, fd, ?_, FunD.bindsN F (fun _ _ _ _ _ _ us hl => match us, hl with | [_, _], _ => rfl), F.kp⟩
  refine okN F sc_door_fits (fun vs H Q E h => ?_) (fun cdv A outer s H vs Q E hr h => ?_)
  · obtain ⟨R, v, l, rfl, _⟩ := h
    rfl
  · obtain ⟨R, v, d, rfl, hv, hd, q⟩ := h
    refine ⟨_, (pss_cons (ps_if (PW.pt (pw_or (pt_not (pt_val (pe_callB call_isi (by rfl) c.n_isinstance boot_isinstance (pa_cons (pv 1) (pa_cons (pe_bltn (v := .ty "tuple") (by rfl) c.n_tuple boot_tuple rfl) pa_nil))))) (pw_or (pt_cmpR op_ne (pe_callB (call_lenK (K := K) rfl) (by rfl) c.n_len boot_len (pa_cons (pv 1) pa_nil)) pe_int (nomark _)) (pw_or1 (pt_not (pt_val (pe_c O_is_lights hr (pa_cons (pv 0) (pa_cons (pe_ix (ix_tupK (K := K) rfl) (pv 1) pe_int (fun _ _ => rfl)) pa_nil))))))))) (pss_one (ps_ret pe_bl)) pss_nil)
      (pss_one (ps_ret (pe_and (pe_c O_is_room hr (pa_cons (pv 0) (pa_cons (pe_ix (ix_tupK (K := K) rfl) (pv 1) pe_int (fun _ _ => rfl)) pa_nil))) (pe_one (pe_c O_is_between hr (pa_cons (pe_ix (ix_tupK (K := K) rfl) (pv 1) pe_int (fun _ _ => rfl)) (pa_cons (pe_un un_neg pe_int) (pa_cons pe_int pa_nil))))))))), ?_⟩
    obtain ⟨p, n, rfl, hp, hn⟩ := dp_door hv
    refine ⟨_, rfl, _, _, _, _, _, rfl, .ty "tuple", tyT hp, kit_ty (r := true) (by decide +kernel), _, rfl, iteF ?_⟩
    refine ⟨_, rfl, p, _, rfl, .inr hp, rfl, _, rfl, itN rfl ?_⟩
    refine ⟨_, rfl, _, rfl, p, _, _, _, rfl, rfl, hp, rfl, R, .ref n, d.needs, rfl, dp_lN_mk hn, hd.needs, fun H1 s1 => ⟨_, rfl, iteF ?_⟩⟩
    have hp1 := same_seqT s1 hp
    refine ⟨_, rfl, _, rfl, p, _, _, _, rfl, rfl, hp1, rfl, d.room, R, rfl, hd.room, _, rfl, iteT ?_⟩
    refine ⟨_, rfl, p, _, _, _, rfl, rfl, hp1, rfl, _, rfl, d.shift, _, _, rfl, .inr ⟨-1, rfl, ?_⟩, .inr ⟨1, rfl, ?_⟩, q _ s1⟩
    · rcases hd.shift with e | e | e <;> omega
    · rcases hd.shift with e | e | e <;> omega
def sp_level_fits (K : PySem.W.Frag) : Sp := fun vs H Q _ => ∃ (R : Nat) (v : V) (ds : List Dr), vs = [v] ∧ Dp K H v (levelD R ds) ∧ 1 ≤ R ∧ (∀ d ∈ ds, DrOk R d) ∧ ∀ H', Same H H' → Q (.bl true) H'
theorem sc_level_fits : FnScope ["value", "door"] ["value"] (defScope s_level_fits) := ⟨rfl, rfl, rfl, by decide +kernel, rfl, by decide +kernel, by decide +kernel⟩
theorem ok_level_fits (c : Cf K mg) (O_is_between : Ok P w K mg base 2 "is_between" ["value", "low", "high"] (sp_is_between K)) (O_door_fits : Ok P w K mg base 5 "door_fits" ["rooms", "value"] (sp_door_fits K)) : Ok P w K mg base 6 "level_fits" ["value"] (sp_level_fits K) := by
  obtain ⟨fd, F⟩ := c.d.def_ 5 (d := d_level_fits) rfl
  refine ⟨c.g_level_fits, fd, ?_, FunD.bindsN F (fun _ _ _ _ _ _ us hl => match us, hl with | [_], _ => rfl), F.kp⟩
  refine okN F sc_level_fits (fun vs H Q E h => ?_) (fun cdv A outer s H vs Q E hr h => ?_)
  · obtain ⟨R, v, l, rfl, _⟩ := h
    rfl
  · obtain ⟨R, v, ds, rfl, hv, hR, hd, q⟩ := h
    refine ⟨_, (pss_cons (ps_if (PW.pt (pw_or (pt_not (pt_val (pe_callB call_isi (by rfl) c.n_isinstance boot_isinstance (pa_cons (pv 0) (pa_cons (pe_bltn (v := .ty "tuple") (by rfl) c.n_tuple boot_tuple rfl) pa_nil))))) (pw_or (pt_cmpR op_ne (pe_callB (call_lenK (K := K) rfl) (by rfl) c.n_len boot_len (pa_cons (pv 0) pa_nil)) pe_int (nomark _)) (pw_or1 (pt_not (pt_val (pe_c O_is_between hr (pa_cons (pe_ix (ix_tupK (K := K) rfl) (pv 0) pe_int (fun _ _ => rfl)) (pa_cons pe_int (pa_cons pe_non pa_nil)))))))))) (pss_one (ps_ret pe_bl)) pss_nil)
      (pss_one (ps_ret (pe_and (pe_callB call_isi (by rfl) c.n_isinstance boot_isinstance (pa_cons (pe_ix (ix_tupK (K := K) rfl) (pv 0) pe_int (fun _ _ => rfl)) (pa_cons (pe_bltn (v := .ty "list") (by rfl) c.n_list boot_list rfl) pa_nil))) (pe_one (pe_cmpR (op_eqDK (K := K) rfl hr.units) (pe_lc (own := [("door", 1)]) (g := gName 1) (by rfl) sc_level_fits.nd (pi_list (pe_ix (ix_tupK (K := K) rfl) (pv 0) pe_int (fun _ _ => rfl))) (blkOk_by (own := [("door", 1)]) (N := ["value", "door"]) (sc := defScope s_level_fits) (by decide +kernel)) (fun _ _ _ _ _ => (pg_name (i := 1) sc_level_fits.nd rfl (Or.inl rfl))) (fun _ _ _ _ _ => (pts_one (pt_not (pt_val (pe_c O_door_fits hr (pa_cons (pe_ix (ix_tupK (K := K) rfl) (pv 0) pe_int (fun _ _ => rfl)) (pa_cons (pv 1) pa_nil))))))) (fun _ _ _ _ _ => (pv 1))) (pe_lst pa_nil) (nomark _))))))), ?_⟩
    obtain ⟨p, a, xs, rfl, hp, ha, hx⟩ := dp_level hv
    refine ⟨_, rfl, _, _, _, _, _, rfl, .ty "tuple", tyT hp, kit_ty (r := true) (by decide +kernel), _, rfl, iteF ?_⟩
    refine ⟨_, rfl, p, _, rfl, .inr hp, rfl, _, rfl, itN rfl ?_⟩
    refine ⟨_, rfl, p, _, _, _, rfl, rfl, hp, rfl, R, _, _, rfl, .inr ⟨1, rfl, by omega⟩, .inl rfl, _, rfl, iteF ?_⟩
    refine ⟨_, rfl, p, _, _, _, rfl, rfl, hp, rfl, _, _, _, _, _, rfl, .ty "list", tyL ha, kit_ty (r := true) (by decide +kernel), _, rfl, iteT ?_⟩
    refine ⟨_, rfl, p, _, _, _, rfl, rfl, hp, rfl, a, rfl, ⟨_, ha⟩, fun D hD => ?_⟩
    refine lc_list (xs := xs) (fun i H' => Same H H' ∧ H' D = some (.lst [])) ⟨same_upd hD, upd_same⟩ (fun i H' _ t => t.1.seq ha) ?_ ?_
    · rintro i x H1 hi ⟨s1, e1⟩
      obtain ⟨e, he, hxe⟩ := dpAll_at hx hi
      obtain ⟨d, hdi, rfl⟩ := map_get he
      refine ⟨rfl, _, rfl, p, _, _, _, rfl, rfl, same_seqT s1 hp, rfl, _, rfl, R, x, d, rfl, dp_mono s1 hxe, hd d (List.mem_of_getElem? hdi), fun H2 s2 => ⟨_, rfl, iteF ⟨s1.trans s2, s2 _ _ e1⟩⟩⟩
    · rintro H1 ⟨s1, e1⟩
      exact ⟨Nat.zero_le _, fun p2 hp2 => ⟨.list [], .list [], nil_dp (by rw [upd_ne (ne_of_none e1 hp2)]; exact e1), nil_dp upd_same, by decide, by decide, q _ (s1.trans (same_upd hp2))⟩⟩
def sp_step_fits (K : PySem.W.Frag) : Sp := fun vs H Q _ => ∃ (R n : Nat) (v : V) (s : Stp), vs = [vN R, vN n, v] ∧ Dp K H v s.data ∧ StpOk R n s ∧ ∀ H', Same H H' → Q (.bl true) H'
theorem sc_step_fits : FnScope ["rooms", "places", "value"] ["rooms", "places", "value"] (defScope s_step_fits) := ⟨rfl, rfl, rfl, by decide +kernel, rfl, by decide +kernel, by decide +kernel⟩
theorem ok_step_fits (c : Cf K mg) (O_is_between : Ok P w K mg base 2 "is_between" ["value", "low", "high"] (sp_is_between K)) (O_is_lights : Ok P w K mg base 4 "is_lights" ["rooms", "value"] (sp_is_lights K)) : Ok P w K mg base 5 "step_fits" ["rooms", "places", "value"] (sp_step_fits K) := by
  obtain ⟨fd, F⟩ := c.d.def_ 11 (d := d_step_fits) rfl
  refine ⟨c.g_step_fits, fd, ?_, FunD.bindsN F (fun _ _ _ _ _ _ us hl => match us, hl with | [_, _, _], _ => rfl), F.kp⟩
  refine okN F sc_step_fits (fun vs H Q E h => ?_) (fun cdv A outer s H vs Q E hr h => ?_)
  · obtain ⟨R, n, v, z, rfl, _⟩ := h
    rfl
  · obtain ⟨R, n, v, z, rfl, hv, hz, q⟩ := h
    refine ⟨_, (pss_cons (ps_if (PW.pt (pw_or (pt_not (pt_val (pe_callB call_isi (by rfl) c.n_isinstance boot_isinstance (pa_cons (pv 2) (pa_cons (pe_bltn (v := .ty "tuple") (by rfl) c.n_tuple boot_tuple rfl) pa_nil))))) (pw_or1 (pt_cmpR op_ne (pe_callB (call_lenK (K := K) rfl) (by rfl) c.n_len boot_len (pa_cons (pv 2) pa_nil)) pe_int (nomark _))))) (pss_one (ps_ret pe_bl)) pss_nil)
      (pss_cons (ps_if (PW.pt (pw_or (pt_not (pt_val (pe_c O_is_between hr (pa_cons (pe_ix (ix_tupK (K := K) rfl) (pv 2) pe_int (fun _ _ => rfl)) (pa_cons pe_int (pa_cons (pe_op op_sub (pv 1) pe_int) pa_nil)))))) (pw_or (pt_not (pt_val (pe_c O_is_between hr (pa_cons (pe_ix (ix_tupK (K := K) rfl) (pv 2) pe_int (fun _ _ => rfl)) (pa_cons pe_int (pa_cons (pe_op op_sub (pv 1) pe_int) pa_nil)))))) (pw_or1 (pt_cmpR op_eq (pe_ix (ix_tupK (K := K) rfl) (pv 2) pe_int (fun _ _ => rfl)) (pe_ix (ix_tupK (K := K) rfl) (pv 2) pe_int (fun _ _ => rfl)) (nomark _)))))) (pss_one (ps_ret pe_bl)) pss_nil)
      (pss_one (ps_ret (pe_c O_is_lights hr (pa_cons (pv 0) (pa_cons (pe_ix (ix_tupK (K := K) rfl) (pv 2) pe_int (fun _ _ => rfl)) pa_nil))))))), ?_⟩
    obtain ⟨p, m, rfl, hp, hm⟩ := dp_stp hv
    have h1 := hz.place
    have h2 := hz.goal
    refine ⟨_, rfl, _, _, _, _, _, rfl, .ty "tuple", tyT hp, kit_ty (r := true) (by decide +kernel), _, rfl, iteF ?_⟩
    refine ⟨_, rfl, p, _, rfl, .inr hp, rfl, _, rfl, itN rfl ?_⟩
    refine ⟨_, rfl, p, _, _, _, rfl, rfl, hp, rfl, _, rfl, _, _, rfl, rfl, z.place, _, _, rfl, .inr ⟨0, rfl, by omega⟩, .inr ⟨_, rfl, by omega⟩, _, rfl, iteF ?_⟩
    refine ⟨_, rfl, p, _, _, _, rfl, rfl, hp, rfl, _, rfl, _, _, rfl, rfl, z.goal, _, _, rfl, .inr ⟨0, rfl, by omega⟩, .inr ⟨_, rfl, by omega⟩, _, rfl, iteF ?_⟩
    refine ⟨_, rfl, p, _, _, _, rfl, rfl, hp, rfl, _, rfl, p, _, _, _, rfl, rfl, hp, rfl, rfl, _, rfl, itN ?_ ?_⟩
    · refine decide_eq_false fun e => hz.ne ?_
      have e2 := V.int.inj e
      omega
    · exact ⟨_, rfl, _, rfl, p, _, _, _, rfl, rfl, hp, rfl, R, .ref m, z.needs, rfl, dp_lN_mk hm, hz.needs, q⟩
def sp_house_fits (K : PySem.W.Frag) : Sp := fun vs H Q _ => ∃ (v : V) (h : Hs), vs = [v] ∧ Dp K H v h.data ∧ HsOk h ∧ ∀ H', Same H H' → Q (.bl true) H'
theorem sc_house_fits : FnScope ["value", "rooms", "plates", "steps", "item"] ["value"] (defScope s_house_fits) := ⟨rfl, rfl, rfl, by decide +kernel, rfl, by decide +kernel, by decide +kernel⟩
theorem ok_house_fits (c : Cf K mg) (O_level_fits : Ok P w K mg base 6 "level_fits" ["value"] (sp_level_fits K)) (O_is_lights : Ok P w K mg base 4 "is_lights" ["rooms", "value"] (sp_is_lights K)) (O_step_fits : Ok P w K mg base 5 "step_fits" ["rooms", "places", "value"] (sp_step_fits K)) : Ok P w K mg base 7 "house_fits" ["value"] (sp_house_fits K) := by
  obtain ⟨fd, F⟩ := c.d.def_ 12 (d := d_house_fits) rfl
  refine ⟨c.g_house_fits, fd, ?_, FunD.bindsN F (fun _ _ _ _ _ _ us hl => match us, hl with | [_], _ => rfl), F.kp⟩
  refine okN F sc_house_fits (fun vs H Q E h => ?_) (fun cdv A outer s H vs Q E hr h => ?_)
  · obtain ⟨v, h, rfl, _⟩ := h
    rfl
  · obtain ⟨v, h, rfl, hv, hh, q⟩ := h
    refine ⟨_, (pss_cons (ps_if (PW.pt (pw_or (pt_not (pt_val (pe_callB call_isi (by rfl) c.n_isinstance boot_isinstance (pa_cons (pv 0) (pa_cons (pe_bltn (v := .ty "tuple") (by rfl) c.n_tuple boot_tuple rfl) pa_nil))))) (pw_or (pt_cmpR op_ne (pe_callB (call_lenK (K := K) rfl) (by rfl) c.n_len boot_len (pa_cons (pv 0) pa_nil)) pe_int (nomark _)) (pw_or1 (pt_not (pt_val (pe_c O_level_fits hr (pa_cons (pe_ix (ix_tupK (K := K) rfl) (pv 0) pe_int (fun _ _ => rfl)) pa_nil)))))))) (pss_one (ps_ret pe_bl)) pss_nil)
      (pss_cons (ps_asg (pe_tup (pa_cons (pe_ix (ix_tupK (K := K) rfl) (pe_ix (ix_tupK (K := K) rfl) (pv 0) pe_int (fun _ _ => rfl)) pe_int (fun _ _ => rfl)) (pa_cons (pe_ix (ix_tupK (K := K) rfl) (pv 0) pe_int (fun _ _ => rfl)) (pa_cons (pe_ix (ix_tupK (K := K) rfl) (pv 0) pe_int (fun _ _ => rfl)) pa_nil)))) (pg_tupK (K := K) (n := 3) rfl rfl (pgs_cons (pg_name (i := 1) sc_house_fits.nd rfl (Or.inr rfl)) (pgs_cons (pg_name (i := 2) sc_house_fits.nd rfl (Or.inr rfl)) (pgs_cons (pg_name (i := 3) sc_house_fits.nd rfl (Or.inl rfl)) pgs_nil)))))
      (pss_cons (ps_if (PW.pt (pw_or (pt_not (pt_val (pe_callB call_isi (by rfl) c.n_isinstance boot_isinstance (pa_cons (pv 2) (pa_cons (pe_bltn (v := .ty "list") (by rfl) c.n_list boot_list rfl) pa_nil))))) (pw_or (pt_cmpR (op_eqDK (K := K) rfl hr.units) (pv 2) (pe_lst pa_nil) (nomark _)) (pw_or1 (pt_cmpR (op_neDK (K := K) rfl hr.units) (pe_lc (own := [("item", 4)]) (g := gName 4) (by rfl) sc_house_fits.nd (pi_list (pv 2)) (blkOk_by (own := [("item", 4)]) (N := ["value", "rooms", "plates", "steps", "item"]) (sc := defScope s_house_fits) (by decide +kernel)) (fun _ _ _ _ _ => (pg_name (i := 4) sc_house_fits.nd rfl (Or.inl rfl))) (fun _ _ _ _ _ => (pts_one (pt_not (pt_val (pe_c O_is_lights hr (pa_cons (pv 1) (pa_cons (pv 4) pa_nil))))))) (fun _ _ _ _ _ => (pv 4))) (pe_lst pa_nil) (nomark _)))))) (pss_one (ps_ret pe_bl)) pss_nil)
      (pss_one (ps_ret (pe_and (pe_callB call_isi (by rfl) c.n_isinstance boot_isinstance (pa_cons (pv 3) (pa_cons (pe_bltn (v := .ty "list") (by rfl) c.n_list boot_list rfl) pa_nil))) (pe_one (pe_cmpR (op_eqDK (K := K) rfl hr.units) (pe_lc (own := [("item", 4)]) (g := gName 4) (by rfl) sc_house_fits.nd (pi_list (pv 3)) (blkOk_by (own := [("item", 4)]) (N := ["value", "rooms", "plates", "steps", "item"]) (sc := defScope s_house_fits) (by decide +kernel)) (fun _ _ _ _ _ => (pg_name (i := 4) sc_house_fits.nd rfl (Or.inl rfl))) (fun _ _ _ _ _ => (pts_one (pt_not (pt_val (pe_c O_step_fits hr (pa_cons (pv 1) (pa_cons (pe_callB (call_lenK (K := K) rfl) (by rfl) c.n_len boot_len (pa_cons (pv 2) pa_nil)) (pa_cons (pv 4) pa_nil)))))))) (fun _ _ _ _ _ => (pv 4))) (pe_lst pa_nil) (nomark _))))))))), ?_⟩
    obtain ⟨p, lv, a, ps, b, ss, rfl, hp, hlv, ha, hpa, hb, hsb⟩ := dp_house hv
    obtain ⟨pl, qa, xs, rfl, hpl, hqa, hxs⟩ := dp_level hlv
    refine ⟨_, rfl, _, _, _, _, _, rfl, .ty "tuple", tyT hp, kit_ty (r := true) (by decide +kernel), _, rfl, iteF ?_⟩
    refine ⟨_, rfl, p, _, rfl, .inr hp, rfl, _, rfl, itN rfl ?_⟩
    refine ⟨_, rfl, p, _, _, _, rfl, rfl, hp, rfl, h.rooms, _, h.doors, rfl, hlv, hh.rooms, hh.doors, fun H1 s1 => ⟨_, rfl, iteF ?_⟩⟩
    have hp1 := same_seqT s1 hp
    refine ⟨_, rfl, p, _, _, _, rfl, rfl, hp1, rfl, pl, _, _, _, rfl, rfl, same_seqT s1 hpl, rfl, _, rfl, p, _, _, _, rfl, rfl, hp1, rfl, _, rfl, p, _, _, _, rfl, rfl, hp1, rfl, (by show 3 ≤ sizeLine; decide), fun t ht => ?_⟩
    refine ⟨t, _, rfl, .inl (.inl upd_same), rfl, _, _, rfl, _, _, rfl, _, _, rfl, rfl, ?_⟩
    have s2 : Same H (upd H1 t (.tup [vN h.rooms, .ref a, .ref b])) := s1.trans (same_upd ht)
    refine ⟨_, rfl, _, _, _, _, _, rfl, .ty "list", tyL (s2.seq ha), kit_ty (r := true) (by decide +kernel), _, rfl, iteF ?_⟩
    refine ⟨_, rfl, Nat.zero_le _, fun e0 he0 => ⟨_, .list [], .lst ((s2.trans (same_upd he0)).seq ha) (dpAll_mono (s2.trans (same_upd he0)) hpa), nil_dp upd_same, (tame_lNN h.plates).shaped (by decide), by decide, _, rfl, itN ?_ ?_⟩⟩
    · rw [eqv_nil]
      cases e : h.plates with
      | nil => exact absurd e hh.some_
      | cons x l => rfl
    have s3 : Same H (upd (upd H1 t (.tup [vN h.rooms, .ref a, .ref b])) e0 (.lst [])) := s2.trans (same_upd he0)
    refine ⟨_, rfl, a, rfl, ⟨_, s3.seq ha⟩, fun D hD => ?_⟩
    refine lc_list (xs := ps) (fun i H' => Same H H' ∧ H' D = some (.lst [])) ⟨s3.trans (same_upd hD), upd_same⟩ (fun i H' _ t => t.1.seq ha) ?_ ?_
    · rintro i x H2 hi ⟨s4, e1⟩
      obtain ⟨e, he, hxe⟩ := dpAll_at hpa hi
      obtain ⟨l, hl, rfl⟩ := map_get he
      exact ⟨rfl, _, rfl, _, rfl, h.rooms, x, l, rfl, dp_mono s4 hxe, hh.plates l (List.mem_of_getElem? hl), fun H3 s5 => ⟨_, rfl, iteF ⟨s4.trans s5, s5 _ _ e1⟩⟩⟩
    · rintro H2 ⟨s4, e1⟩
      refine ⟨Nat.zero_le _, fun p2 hp2 => ⟨.list [], .list [], nil_dp (by rw [upd_ne (ne_of_none e1 hp2)]; exact e1), nil_dp upd_same, by decide, by decide, _, rfl, iteF ?_⟩⟩
      have s5 : Same H (upd H2 p2 (.lst [])) := s4.trans (same_upd hp2)
      refine ⟨_, rfl, _, _, _, _, _, rfl, .ty "list", tyL (s5.seq hb), kit_ty (r := true) (by decide +kernel), _, rfl, iteT ?_⟩
      refine ⟨_, rfl, b, rfl, ⟨_, s5.seq hb⟩, fun D2 hD2 => ?_⟩
      refine lc_list (xs := ss) (fun i H' => Same H H' ∧ H' D2 = some (.lst [])) ⟨s5.trans (same_upd hD2), upd_same⟩ (fun i H' _ t => t.1.seq hb) ?_ ?_
      · rintro i x H3 hi ⟨s6, e2⟩
        obtain ⟨e, he, hxe⟩ := dpAll_at hsb hi
        obtain ⟨z, hz, rfl⟩ := map_get he
        have hlen : (ps.length : Int) = (h.plates.length : Nat) := by rw [dpAll_len hpa, List.length_map]
        refine ⟨rfl, _, rfl, _, rfl, a, _, rfl, .inl (s6.seq ha), _, rfl, h.rooms, h.plates.length, x, z, ?_, dp_mono s6 hxe, hh.steps z (List.mem_of_getElem? hz), fun H4 s7 => ⟨_, rfl, iteF ⟨s6.trans s7, s7 _ _ e2⟩⟩⟩
        rw [hlen] <;> rfl
      · rintro H3 ⟨s6, e2⟩
        exact ⟨Nat.zero_le _, fun p3 hp3 => ⟨.list [], .list [], nil_dp (by rw [upd_ne (ne_of_none e2 hp3)]; exact e2), nil_dp upd_same, by decide, by decide, q _ (s6.trans (same_upd hp3))⟩⟩
def sp_check_house (K : PySem.W.Frag) : Sp := fun vs H Q _ => ∃ (v : V) (h : Hs), vs = [v] ∧ Dp K H v h.data ∧ HsOk h ∧ ∀ H', Same H H' → Q .non H'
theorem sc_check_house : FnScope ["house"] ["house"] (defScope s_check_house) := ⟨rfl, rfl, rfl, by decide +kernel, rfl, by decide +kernel, by decide +kernel⟩
theorem ok_check_house (c : Cf K mg) (O_house_fits : Ok P w K mg base 7 "house_fits" ["value"] (sp_house_fits K)) : Ok P w K mg base 8 "check_house" ["house"] (sp_check_house K) := by
  obtain ⟨fd, F⟩ := c.d.def_ 13 (d := d_check_house) rfl
  refine ⟨c.g_check_house, fd, ?_, FunD.bindsN F (fun _ _ _ _ _ _ us hl => match us, hl with | [_], _ => rfl), F.kp⟩
  refine okN F sc_check_house (fun vs H Q E h => ?_) (fun cdv A outer s H vs Q E hr h => ?_)
  · obtain ⟨v, h, rfl, _⟩ := h
    rfl
  · obtain ⟨v, h, rfl, hv, hh, q⟩ := h
    refine ⟨_, (pss_one (ps_if (pt_not (pt_val (pe_c O_house_fits hr (pa_cons (pv 0) pa_nil)))) (pss_one ps_never) pss_nil)), ?_⟩
    exact ⟨_, rfl, v, h, rfl, hv, hh, fun H1 s1 => ⟨_, rfl, iteF (q _ s1)⟩⟩
def sp_is_place (K : PySem.W.Frag) : Sp := fun vs H Q _ => ∃ (v : V) (h : Hs) (i : Nat), vs = [v, vN i] ∧ Dp K H v h.data ∧ i < h.plates.length ∧ Q (.bl true) H
theorem sc_is_place : FnScope ["house", "value"] ["house", "value"] (defScope s_is_place) := ⟨rfl, rfl, rfl, by decide +kernel, rfl, by decide +kernel, by decide +kernel⟩
theorem ok_is_place (c : Cf K mg) (O_is_between : Ok P w K mg base 2 "is_between" ["value", "low", "high"] (sp_is_between K)) : Ok P w K mg base 3 "is_place" ["house", "value"] (sp_is_place K) := by
  obtain ⟨fd, F⟩ := c.d.def_ 15 (d := d_is_place) rfl
  refine ⟨c.g_is_place, fd, ?_, FunD.bindsN F (fun _ _ _ _ _ _ us hl => match us, hl with | [_, _], _ => rfl), F.kp⟩
  refine okN F sc_is_place (fun vs H Q E h => ?_) (fun cdv A outer s H vs Q E hr h => ?_)
  · obtain ⟨v, h, i, rfl, _⟩ := h
    rfl
  · obtain ⟨v, h, i, rfl, hv, hi, q⟩ := h
    refine ⟨_, (pss_one (ps_ret (pe_c O_is_between hr (pa_cons (pv 1) (pa_cons pe_int (pa_cons (pe_op op_sub (pe_callB (call_lenK (K := K) rfl) (by rfl) c.n_len boot_len (pa_cons (pe_ix (ix_tupK (K := K) rfl) (pv 0) pe_int (fun _ _ => rfl)) pa_nil)) pe_int) pa_nil)))))), ?_⟩
    obtain ⟨p, lv, a, ps, b, ss, rfl, hp, hlv, ha, hpa, hb, hsb⟩ := dp_house hv
    have hlen : ps.length = h.plates.length := by rw [dpAll_len hpa, List.length_map]
    exact ⟨_, rfl, _, rfl, p, _, _, _, rfl, rfl, hp, rfl, a, _, rfl, .inl ha, _, _, rfl, rfl, i, _, _, rfl, .inr ⟨0, rfl, by omega⟩, .inr ⟨_, rfl, by omega⟩, q⟩
end
end K30

/-! #### B -/
namespace K30
open PySem PySem.Spec PyProof.Rows L2
/-! ### bits -/
theorem and_nat (a b : Nat) : Builtin.bitAnd (a : Int) (b : Int) = ((a &&& b : Nat) : Int) := by simp [Builtin.bitAnd]
theorem or_nat (a b : Nat) : Builtin.bitOr (a : Int) (b : Int) = ((a ||| b : Nat) : Int) := by
  unfold Builtin.bitOr
  rw [bitAnd_nn (by simp [Builtin.bitNot]; omega) (by simp [Builtin.bitNot]; omega)]
  simp [Builtin.bitNot]
  have e1 : (-(-(a : Int) - 1)).toNat - 1 = a := by omega
  have e2 : (-(-(b : Int) - 1)).toNat - 1 = b := by omega
  rw [e1, e2]
  omega
theorem shl_nat (r : Nat) : (1 : Int) * 2 ^ ((r : Int).toNat) = ((2 ^ r : Nat) : Int) := by
  rw [Int.one_mul, Int.toNat_natCast]
  norm_cast
theorem maskOf_cast : ∀ l : List Nat, (l.map fun r => ((2 ^ r : Nat) : Int)).sum = ((maskOf l : Nat) : Int)
  | [] => rfl
  | r :: l => by
    rw [List.map_cons, List.sum_cons, maskOf_cast l, maskOf_cons]
    omega
theorem take_snoc {α β : Type} {f : α → β} {l : List α} {i : Nat} {x : α} (h : l[i]? = some x) : (l.take (i + 1)).map f = (l.take i).map f ++ [f x] := by
  rw [List.take_add_one, h, List.map_append]
  rfl
theorem take_all {α β : Type} {f : α → β} (l : List α) : (l.take l.length).map f = l.map f := by rw [List.take_length]
theorem eqv_int (a b : Int) : PyData.eqv (.int a) (.int b) = decide (a = b) := by
  show (a == b) = decide (a = b)
  by_cases h : a = b <;> simp [h]
theorem eqv_lN : ∀ l m : List Nat, PyData.eqv (lN l) (lN m) = decide (l = m)
  | [], [] => rfl
  | [], _ :: _ => rfl
  | _ :: _, [] => rfl
  | a :: l, b :: m => by
    have ih := eqv_lN l m
    show (PyData.eqv (.int a) (.int b) && PyData.eqvAll (l.map iN) (m.map iN)) = _
    have e : PyData.eqvAll (l.map iN) (m.map iN) = decide (l = m) := ih
    rw [e, eqv_int]
    by_cases h1 : (a : Int) = b
    · have h1' : a = b := by omega
      by_cases h2 : l = m <;> simp [h1', h2]
    · have h1' : ¬ a = b := by omega
      simp [h1, h1']
def Dr.mdata (d : Dr) : PyData := .tuple [iN (maskOf d.needs), iN d.room, .int d.shift]
def mdoorsD (ds : List Dr) : PyData := .list (ds.map Dr.mdata)
section
variable {P : Program} {w : World} {K : PySem.W.Frag} {mg : Str → Option Value} {base : Heap}
theorem dp_mdoor {H : Hp} {v : V} {d : Dr} (h : Dp K H v d.mdata) : ∃ p, v = .ref p ∧ SqT K H p [vN (maskOf d.needs), vN d.room, .int d.shift] := by
  obtain ⟨p, x, y, z, rfl, hs, h1, h2, h3⟩ := dp_tup3 h
  rw [dp_int h1, dp_int h2, dp_int h3] at hs
  exact ⟨p, rfl, hs⟩
def sp_mask_of (K : PySem.W.Frag) : Sp := fun vs H Q _ => ∃ (v : V) (l : List Nat), vs = [v] ∧ Dp K H v (lN l) ∧ l.length ≤ 100 ∧ (∀ x ∈ l, x < 100) ∧ ∀ H', Same H H' → Q (vN (maskOf l)) H'
theorem sc_mask_of : FnScope ["lights", "room"] ["lights"] (defScope s_mask_of) := ⟨rfl, rfl, rfl, by decide +kernel, rfl, by decide +kernel, by decide +kernel⟩
theorem ok_mask_of (c : Cf K mg)  : Ok P w K mg base 1 "mask_of" ["lights"] (sp_mask_of K) := by
  obtain ⟨fd, F⟩ := c.d.def_ 6 (d := d_mask_of) rfl
  refine ⟨c.g_mask_of, fd, ?_, FunD.bindsN F (fun _ _ _ _ _ _ us hl => match us, hl with | [_], _ => rfl), F.kp⟩
  refine okN F sc_mask_of (fun vs H Q E h => ?_) (fun cdv A outer s H vs Q E hr h => ?_)
  · obtain ⟨v, l, rfl, _⟩ := h
    rfl
  · obtain ⟨v, l, rfl, hv, hl, hx, q⟩ := h
    refine ⟨_, (pss_one (ps_ret (pe_callB (cr_sum rfl) (by rfl) c.n_sum (by decide +kernel) (pa_cons (pe_lc (own := [("room", 1)]) (g := gName 1) (tt := tYes) (by rfl) sc_mask_of.nd (pi_list (pv 0)) (blkOk_by (own := [("room", 1)]) (N := ["lights", "room"]) (sc := defScope s_mask_of) (by decide +kernel)) (fun _ _ _ _ _ => (pg_name (i := 1) sc_mask_of.nd rfl (Or.inl rfl))) (fun _ _ _ _ _ => pts_nil) (fun _ _ _ _ _ => (pe_op op_shl pe_int (pv 1)))) pa_nil)))), ?_⟩
    obtain ⟨a, rfl, ha⟩ := dp_lN hv
    refine ⟨_, rfl, a, rfl, ⟨_, ha⟩, fun D hD => ?_⟩
    refine lc_list (xs := l.map vN) (fun i H' => Same H H' ∧ H' D = some (.lst (((l.take i).map fun r => ((2 ^ r : Nat) : Int)).map V.int))) ⟨same_upd hD, upd_same⟩ (fun i H' _ p => p.1.seq ha) ?_ ?_
    · rintro i x H1 hi ⟨s1, e1⟩
      obtain ⟨n, hn, rfl⟩ := map_get hi
      have hn1 := hx n (List.mem_of_getElem? hn)
      refine ⟨rfl, _, rfl, _, _, rfl, rfl, ⟨by omega, by omega, by decide⟩, _, e1, ?_, same_put s1 hD, ?_⟩
      · rw [List.length_map, List.length_map, List.length_take]
        exact small100 (by omega)
      · rw [upd_same, take_snoc hn, List.map_append]
        show some (HO.lst (_ ++ [V.int (1 * 2 ^ ((n : Int)).toNat)])) = _
        rw [shl_nat]
        rfl
    · rintro H1 ⟨s1, e1⟩
      rw [List.length_map, take_all] at e1
      · refine ⟨D, _, rfl, .inl (.inl e1), ?_⟩
        rw [maskOf_cast]
        exact q _ s1
def sp_masked_doors (K : PySem.W.Frag) : Sp := fun vs H Q _ => ∃ (v : V) (R : Nat) (ds : List Dr), vs = [v] ∧ Dp K H v (levelD R ds) ∧ (∀ d ∈ ds, DrOk R d) ∧ R ≤ 100 ∧ ds.length ≤ 100 ∧ ∀ H' v', Same H H' → Dp K H' v' (mdoorsD ds) → Q v' H'
theorem sc_masked_doors : FnScope ["level", "needs", "room", "shift"] ["level"] (defScope s_masked_doors) := ⟨rfl, rfl, rfl, by decide +kernel, rfl, by decide +kernel, by decide +kernel⟩
theorem ok_masked_doors (c : Cf K mg) (O_mask_of : Ok P w K mg base 1 "mask_of" ["lights"] (sp_mask_of K)) : Ok P w K mg base 2 "masked_doors" ["level"] (sp_masked_doors K) := by
  obtain ⟨fd, F⟩ := c.d.def_ 7 (d := d_masked_doors) rfl
  refine ⟨c.g_masked_doors, fd, ?_, FunD.bindsN F (fun _ _ _ _ _ _ us hl => match us, hl with | [_], _ => rfl), F.kp⟩
  refine okN F sc_masked_doors (fun vs H Q E h => ?_) (fun cdv A outer s H vs Q E hr h => ?_)
  · obtain ⟨v, R, l, rfl, _⟩ := h
    rfl
  · obtain ⟨v, R, ds, rfl, hv, hd, hR, hl, q⟩ := h
    refine ⟨_, (pss_one (ps_ret (pe_lc (own := [("needs", 1), ("room", 2), ("shift", 3)]) (tt := tYes) (by rfl) sc_masked_doors.nd (pi_list (pe_ix (ix_tupK (K := K) rfl) (pv 0) pe_int (fun _ _ => rfl))) (blkOk_by (own := [("needs", 1), ("room", 2), ("shift", 3)]) (N := ["level", "needs", "room", "shift"]) (sc := defScope s_masked_doors) (by decide +kernel)) (fun _ _ _ _ _ => (pg_tupK (K := K) (n := 3) rfl rfl (pgs_cons (pg_name (i := 1) sc_masked_doors.nd rfl (Or.inl rfl)) (pgs_cons (pg_name (i := 2) sc_masked_doors.nd rfl (Or.inl rfl)) (pgs_cons (pg_name (i := 3) sc_masked_doors.nd rfl (Or.inl rfl)) pgs_nil))))) (fun _ _ _ _ _ => pts_nil) (fun _ _ _ _ _ => (pe_tup (pa_cons (pe_c O_mask_of hr (pa_cons (pv 1) pa_nil)) (pa_cons (pv 2) (pa_cons (pv 3) pa_nil)))))))), ?_⟩
    obtain ⟨p, a, xs, rfl, hp, ha, hx⟩ := dp_level hv
    refine ⟨_, rfl, p, _, _, _, rfl, rfl, hp, rfl, a, rfl, ⟨_, ha⟩, fun D hD => ?_⟩
    refine lc_list (xs := xs) (fun i H' => Same H H' ∧ ∃ ys, H' D = some (.lst ys) ∧ ys.length = i ∧ DpAll K (hid D H') ys ((ds.take i).map Dr.mdata)) ⟨same_upd hD, [], upd_same, rfl, .nil⟩ (fun i H' _ p => p.1.seq ha) ?_ ?_
    · rintro i x H1 hi ⟨s1, ys, e1, hy, hys⟩
      obtain ⟨e, he, hxe⟩ := dpAll_at hx hi
      obtain ⟨d, hdi, rfl⟩ := map_get he
      obtain ⟨t, n, rfl, ht, hn⟩ := dp_door (dp_mono s1 hxe)
      have ok := hd d (List.mem_of_getElem? hdi)
      have hil : i < ds.length := (List.getElem?_eq_some_iff.mp hdi).1
      refine ⟨t, _, rfl, ht, rfl, _, _, rfl, _, _, rfl, _, _, rfl, rfl, rfl, ?_⟩
      refine ⟨_, rfl, _, d.needs, rfl, dp_lN_mk hn, ok.needs.2.2, fun z hz => Nat.lt_of_lt_of_le (ok.needs.2.1 z hz) hR, fun H2 s2 => ?_⟩
      refine ⟨_, rfl, _, rfl, (by show 3 ≤ sizeLine; decide), fun T hT => ?_⟩
      have e2 := s2 _ _ e1
      have nT : T ≠ D := fun z => by rw [z, e2] at hT; cases hT
      have s3 : Same H1 (upd H2 T (.tup [vN (maskOf d.needs), vN d.room, .int d.shift])) := s2.trans (same_upd hT)
      refine ⟨ys, by rw [upd_ne nT.symm]; exact e2, by rw [hy]; exact small100 (by omega), same_put (s1.trans s3) hD, _, upd_same, by rw [List.length_append, hy]; rfl, ?_⟩
      rw [hid_upd, take_snoc hdi]
      refine dpAll_snoc (dpAll_mono (hid_mono s3) hys) (.tup (.inl (.inl ?_)) (.cons (.int _) (.cons (.int _) (.cons (.int _) .nil))))
      rw [hid_ne nT]
      exact upd_same
    · rintro H1 ⟨s1, ys, e1, hy, hys⟩
      have hl2 : xs.length = ds.length := by rw [dpAll_len hx, List.length_map]
      rw [hl2, take_all] at hys
      exact q _ _ s1 (.lst (.inl (.inl e1)) (dpAll_mono (hid_same D H1) hys))
def sp_sent_from (K : PySem.W.Frag) : Sp := fun vs H Q _ => ∃ (v : V) (ds : List Dr) (m : Nat) (s : Int), vs = [v, vN m, .int s] ∧ Dp K H v (mdoorsD ds) ∧ (∀ d ∈ ds, d.needs.Pairwise (· < ·) ∧ d.room < 100) ∧ Q (vN (sentFrom ds m s)) H
theorem sc_sent_from : FnScope ["doors", "mask", "shift", "found", "needs", "room", "there"] ["doors", "mask", "shift"] (defScope s_sent_from) := ⟨rfl, rfl, rfl, by decide +kernel, rfl, by decide +kernel, by decide +kernel⟩
theorem ok_sent_from (c : Cf K mg)  : Ok P w K mg base 1 "sent_from" ["doors", "mask", "shift"] (sp_sent_from K) := by
  obtain ⟨fd, F⟩ := c.d.def_ 8 (d := d_sent_from) rfl
  refine ⟨c.g_sent_from, fd, ?_, FunD.bindsN F (fun _ _ _ _ _ _ us hl => match us, hl with | [_, _, _], _ => rfl), F.kp⟩
  refine okN F sc_sent_from (fun vs H Q E h => ?_) (fun cdv A outer s H vs Q E hr h => ?_)
  · obtain ⟨v, ds, m, z, rfl, _⟩ := h
    rfl
  · obtain ⟨v, ds, m, z, rfl, hv, hd, q⟩ := h
    refine ⟨_, (pss_cons (ps_set (i := 3) sc_sent_from.nd rfl (Or.inl rfl) pe_int)
      (pss_cons (ps_for PassesOwn.never rfl (pi_list (pv 0)) (pg_tupK (K := K) (n := 3) rfl rfl (pgs_cons (pg_name (i := 4) sc_sent_from.nd rfl (Or.inl rfl)) (pgs_cons (pg_name (i := 5) sc_sent_from.nd rfl (Or.inl rfl)) (pgs_cons (pg_name (i := 6) sc_sent_from.nd rfl (Or.inl rfl)) pgs_nil)))) (pss_one (ps_if (PW.pt (pw_and (pt_cmpR op_eq (pv 6) (pv 2) (nomark _)) (pw_and1 (pt_cmpR op_eq (pe_op op_and (pv 4) (pv 1)) (pv 4) (nomark _))))) (pss_one (ps_set (i := 3) sc_sent_from.nd rfl (Or.inl rfl) (pe_op op_or (pv 3) (pe_op op_shl pe_int (pv 5))))) pss_nil)))
      (pss_one (ps_ret (pv 3))))), ?_⟩
    obtain ⟨a, xs, rfl, ha, hx⟩ := dp_list hv
    have hl2 : xs.length = ds.length := by rw [dpAll_len hx, List.length_map]
    refine ⟨_, rfl, a, rfl, ⟨_, ha⟩, for_list (xs := xs) (fun i σ H' => H' = H ∧ ∃ o1 o2 o3, σ = [some (.ref a), some (vN m), some (.int z), some (vN ((ds.take i).foldl (sentStep m z) 0)), o1, o2, o3]) ⟨rfl, none, none, none, rfl⟩ (fun i σ H' _ t => by rw [t.1]; exact ha) ?_ ?_⟩
    · rintro i x σ H1 hi ⟨rfl, o1, o2, o3, rfl⟩
      obtain ⟨e, he, hxe⟩ := dpAll_at hx hi
      obtain ⟨d, hdi, rfl⟩ := map_get he
      obtain ⟨t, rfl, ht⟩ := dp_mdoor hxe
      have ok := hd d (List.mem_of_getElem? hdi)
      have step : (ds.take (i + 1)).foldl (sentStep m z) 0 = sentStep m z ((ds.take i).foldl (sentStep m z) 0) d := by rw [List.take_add_one, hdi, List.foldl_append]; rfl
      have e2 : (Builtin.bitAnd (maskOf d.needs : Nat) (m : Nat) = ((maskOf d.needs : Nat) : Int)) ↔ inMask d.needs m := by
        rw [and_nat, ← and_eq_iff ok.1 m]
        omega
      refine ⟨t, _, rfl, ht, rfl, _, _, rfl, _, _, rfl, _, _, rfl, rfl, ?_⟩
      refine ⟨_, rfl, _, rfl, rfl, _, rfl, ?_⟩
      by_cases h1 : d.shift = z
      · refine itP (decide_eq_true (by rw [h1])) ⟨_, rfl, _, rfl, _, _, rfl, rfl, _, rfl, rfl, _, rfl, ?_⟩
        by_cases h2 : inMask d.needs m
        · refine itP (decide_eq_true (congrArg V.int (e2.mpr h2))) ⟨_, rfl, _, rfl, _, _, rfl, rfl, ⟨by omega, by have := ok.2; omega, by decide⟩, _, _, rfl, rfl, rfl, some (vN (maskOf d.needs)), some (vN d.room), some (.int d.shift), ?_⟩
          rw [step, sentStep, if_pos ⟨h1, h2⟩]
          show _ = [_, _, _, some (V.int _), _, _, _]
          rw [← or_nat, ← shl_nat]
          rfl
        · refine itN (decide_eq_false fun e => h2 (e2.mp (V.int.inj e))) ⟨rfl, some (vN (maskOf d.needs)), some (vN d.room), some (.int d.shift), ?_⟩
          rw [step, sentStep, if_neg (fun e => h2 e.2)]
          rfl
      · refine itN (decide_eq_false fun e => h1 (V.int.inj e)) (itN rfl ⟨rfl, some (vN (maskOf d.needs)), some (vN d.room), some (.int d.shift), ?_⟩)
        rw [step, sentStep, if_neg (fun e => h1 e.1)]
        rfl
    · rintro σ H1 ⟨rfl, o1, o2, o3, rfl⟩
      refine ⟨_, rfl, ?_⟩
      rw [hl2, List.take_length]
      exact q
end
end K30

/-! #### C -/
namespace K30
open PySem PySem.Spec PyProof.Rows L2
structure DrsOk (ds : List Dr) (R : Nat) : Prop where
  needs : ∀ d ∈ ds, d.needs.Pairwise (· < ·)
  room : ∀ d ∈ ds, d.room < R
  le : R ≤ 100
  shift : ∀ d ∈ ds, d.shift = -1 ∨ d.shift = 0 ∨ d.shift = 1
theorem DrsOk.s {ds : List Dr} {R : Nat} (h : DrsOk ds R) : ∀ d ∈ ds, d.needs.Pairwise (· < ·) ∧ d.room < 100 := fun d hd => ⟨h.needs d hd, Nat.lt_of_lt_of_le (h.room d hd) h.le⟩
section
variable {P : Program} {w : World} {K : PySem.W.Frag} {mg : Str → Option Value} {base : Heap}
def sp_closed_at (K : PySem.W.Frag) : Sp := fun vs H Q _ => ∃ (v : V) (ds : List Dr) (m R : Nat), vs = [v, vN m] ∧ Dp K H v (mdoorsD ds) ∧ DrsOk ds R ∧ m < 2 ^ R ∧ ∀ c, Closed ds m c → Q (vN c) H
/-- how many turns are left -/
def clMeas (R c : Nat) (b : V) : Nat := 2 * (2 ^ R - c) + (if b = vN c then 0 else 1)
theorem sc_closed_at : FnScope ["doors", "mask", "found", "before"] ["doors", "mask"] (defScope s_closed_at) := ⟨rfl, rfl, rfl, by decide +kernel, rfl, by decide +kernel, by decide +kernel⟩
theorem ok_closed_at (c : Cf K mg) (O_sent_from : Ok P w K mg base 1 "sent_from" ["doors", "mask", "shift"] (sp_sent_from K)) : Ok P w K mg base 2 "closed_at" ["doors", "mask"] (sp_closed_at K) := by
  obtain ⟨fd, F⟩ := c.d.def_ 9 (d := d_closed_at) rfl
  refine ⟨c.g_closed_at, fd, ?_, FunD.bindsN F (fun _ _ _ _ _ _ us hl => match us, hl with | [_, _], _ => rfl), F.kp⟩
  refine okN F sc_closed_at (fun vs H Q E h => ?_) (fun cdv A outer s H vs Q E hr h => ?_)
  · obtain ⟨v, ds, m, R, rfl, _⟩ := h
    rfl
  · obtain ⟨v, ds, m, R, rfl, hv, hd, hm, q⟩ := h
    refine ⟨_, (pss_cons (ps_par (i := 2) (j := 3) (by rfl) sc_closed_at.nd rfl rfl (by decide) rfl rfl (pa_cons (pv 1) (pa_cons pe_non pa_nil)) (by rfl))
      (pss_cons (ps_while PassesOwn.never (pt_cmpR op_ne (pv 2) (pv 3) (nomark _)) (pss_cons (ps_set (i := 3) sc_closed_at.nd rfl (Or.inl rfl) (pv 2))
      (pss_one (ps_set (i := 2) sc_closed_at.nd rfl (Or.inl rfl) (pe_op op_or (pv 2) (pe_c O_sent_from hr (pa_cons (pv 0) (pa_cons (pv 2) (pa_cons pe_int pa_nil)))))))))
      (pss_one (ps_ret (pv 2))))), ?_⟩
    refine ⟨_, rfl, _, _, rfl, ?_⟩
    refine ⟨fun k σ H' => H' = H ∧ ∃ (c : Nat) (b : V), σ = [some v, some (vN m), some (vN c), some b] ∧ Closing ds m c ∧ (b = .non ∨ ∃ e : Nat, b = vN e ∧ (e = c → c ||| sentFrom ds c 0 = c)) ∧ k = clMeas R c b,
      ⟨_, rfl, m, .non, rfl, .start, .inl rfl, rfl⟩, ?_⟩
    rintro k σ H1 ⟨rfl, c, b, rfl, hc, hb, rfl⟩
    have hlt := hc.lt hm hd.room
    refine ⟨_, rfl, _, rfl, ?_⟩
    by_cases hbc : b = vN c
    · obtain ⟨e, rfl, he⟩ : ∃ e : Nat, b = vN e ∧ (e = c → c ||| sentFrom ds c 0 = c) := by
        rcases hb with rfl | h
        · cases hbc
        · exact h
      have ec : e = c := by have := V.int.inj hbc; omega
      refine ⟨rfl, _, rfl, itN ?_ ⟨_, rfl, q c (hc.done (he ec))⟩⟩
      rw [ec]
      simp
    · refine ⟨?_, _, rfl, itP ?_ ?_⟩
      · rcases hb with rfl | ⟨e, rfl, _⟩ <;> rfl
      · simp [Ne.symm hbc]
      · refine ⟨fun σ' H' => H' = H1 ∧ ∃ (c' : Nat), σ' = [some v, some (vN m), some (vN c'), some (vN c)] ∧ c' = c ||| sentFrom ds c 0, ?_, ?_⟩
        · rintro σ' H' ⟨rfl, c', rfl, rfl⟩
          have hs := hc.step
          have hlt' := hs.lt hm hd.room
          have hle : c ≤ c ||| sentFrom ds c 0 := Nat.left_le_or
          refine ⟨clMeas R (c ||| sentFrom ds c 0) (vN c), ?_, rfl, _, _, rfl, hs, .inr ⟨c, rfl, fun e => ?_⟩, rfl⟩
          · unfold clMeas
            rw [if_neg hbc]
            by_cases e : vN c = vN (c ||| sentFrom ds c 0)
            · rw [if_pos e]
              have e2 : c = c ||| sentFrom ds c 0 := by have := V.int.inj e; omega
              rw [← e2]
              omega
            · rw [if_neg e]
              have e2 : c ≠ c ||| sentFrom ds c 0 := fun z => e (by rw [← z])
              omega
          · rw [← e]
            exact e.symm
        · refine ⟨_, rfl, _, rfl, _, rfl, _, rfl, v, ds, c, 0, rfl, hv, hd.s, _, _, rfl, rfl, rfl, c ||| sentFrom ds c 0, ?_, rfl⟩
          show _ = [_, _, some (V.int _), _]
          rw [← or_nat]
          rfl
end
end K30

/-! #### D -/
namespace K30
open PySem PySem.Spec PyProof.Rows L2
theorem cut_front (xs : List V) : cutV xs none (some (-1)) = xs.dropLast := by
  unfold cutV
  have e : HT.sIx xs.length xs.length (some (-1)) = xs.length - 1 := by
    show (if (-1 : Int) < 0 then ((-1 : Int) + (xs.length : Int)).toNat else min (-1 : Int).toNat xs.length) = xs.length - 1
    rw [if_pos (by decide)]
    omega
  rw [e, HT.sIx_none, List.drop_zero, Nat.sub_zero, List.dropLast_eq_take]
theorem cut_rest (xs : List V) : cutV xs (some 1) none = xs.drop 1 := by
  unfold cutV
  rw [show HT.sIx xs.length 0 (some 1) = min 1 xs.length from HT.sIx_nat xs.length 0 1, HT.sIx_none]
  cases xs with
  | nil => rfl
  | cons x r =>
    rw [show min 1 (x :: r).length = 1 by rw [List.length_cons]; omega]
    show List.take ((x :: r).length - 1) r = r
    rw [List.length_cons, Nat.add_sub_cancel]
    exact List.take_length
theorem cut_head (xs : List V) (k : Nat) (h : k ≤ xs.length) : cutV xs none (some (k : Int)) = xs.take k := by
  unfold cutV
  rw [HT.sIx_nat, HT.sIx_none, List.drop_zero, Nat.sub_zero, Nat.min_eq_left h]
theorem getD_map {f : Nat → Nat} {L : List Nat} {t : Nat} (h : t < L.length) : (L.map f).getD t 0 = f (L.getD t 0) := by
  rw [List.getD_eq_getElem?_getD, List.getD_eq_getElem?_getD, List.getElem?_map, List.getElem?_eq_getElem h]
  rfl
/-- what is sent right, what is sent left, one tick further -/
def comeL (ds : List Dr) (C : List Nat) : List Nat := 0 :: (C.map fun m => sentFrom ds m 1).dropLast
def backL (ds : List Dr) (C : List Nat) : List Nat := (C.map fun m => sentFrom ds m (-1)).drop 1 ++ [0]
theorem comeL_len {ds : List Dr} {C : List Nat} (h : C ≠ []) : (comeL ds C).length = C.length := by
  have : C.length ≠ 0 := fun e => h (List.length_eq_zero_iff.mp e)
  simp [comeL]
  omega
theorem backL_len {ds : List Dr} {C : List Nat} (h : C ≠ []) : (backL ds C).length = C.length := by
  have : C.length ≠ 0 := fun e => h (List.length_eq_zero_iff.mp e)
  simp [backL]
  omega
theorem comeL_get {ds : List Dr} {C : List Nat} {t : Nat} (h : t < C.length) : (comeL ds C).getD t 0 = if t = 0 then 0 else sentFrom ds (C.getD (t - 1) 0) 1 := by
  cases t with
  | zero => rfl
  | succ t =>
    rw [if_neg (by omega)]
    show ((C.map fun m => sentFrom ds m 1).dropLast).getD t 0 = sentFrom ds (C.getD t 0) 1
    rw [← getD_map (f := fun m => sentFrom ds m 1) (by omega), List.getD_eq_getElem?_getD, List.getD_eq_getElem?_getD, List.getElem?_dropLast, if_pos (by rw [List.length_map]; omega)]
theorem backL_get {ds : List Dr} {C : List Nat} {t : Nat} (h : t < C.length) : (backL ds C).getD t 0 = if t + 1 < C.length then sentFrom ds (C.getD (t + 1) 0) (-1) else 0 := by
  unfold backL
  rw [List.getD_eq_getElem?_getD, List.getElem?_append]
  split
  · rename_i h1
    rw [List.length_drop, List.length_map] at h1
    rw [if_pos (by omega), ← getD_map (f := fun m => sentFrom ds m (-1)) (by omega), List.getD_eq_getElem?_getD, List.getElem?_drop, Nat.add_comm]
  · rename_i h1
    rw [List.length_drop, List.length_map] at h1
    rw [if_neg (by omega), List.length_drop, List.length_map, show t - (C.length - 1) = 0 by omega]
    rfl
theorem get_getD {L : List Nat} {t : Nat} {x : V} (h : (L.map vN)[t]? = some x) : t < L.length ∧ x = vN (L.getD t 0) := by
  obtain ⟨y, h1, h2⟩ := map_get h
  refine ⟨(List.getElem?_eq_some_iff.mp h1).1, ?_⟩
  rw [h2, List.getD_eq_getElem?_getD, h1]
  rfl
section
variable {P : Program} {w : World} {K : PySem.W.Frag} {mg : Str → Option Value} {base : Heap}
def sp_light_of (K : PySem.W.Frag) : Sp := fun vs H Q _ => ∃ (v u : V) (ds : List Dr) (ms : List Nat) (R : Nat), vs = [v, u] ∧ Dp K H v (mdoorsD ds) ∧ Dp K H u (lN ms) ∧ DrsOk ds R ∧ (∀ x ∈ ms, x < 2 ^ R) ∧ ms ≠ [] ∧ ms.length ≤ 100 ∧
  ∀ H' v' L, Same H H' → Dp K H' v' (lN L) → IsLight ds ms L → Q v' H'
theorem sc_light_of : FnScope ["doors", "masks", "found", "before", "mask", "ahead", "behind", "come", "back"] ["doors", "masks"] (defScope s_light_of) := ⟨rfl, rfl, rfl, by decide +kernel, rfl, by decide +kernel, by decide +kernel⟩
theorem ok_light_of (c : Cf K mg) (O_closed_at : Ok P w K mg base 2 "closed_at" ["doors", "mask"] (sp_closed_at K)) (O_sent_from : Ok P w K mg base 1 "sent_from" ["doors", "mask", "shift"] (sp_sent_from K)) : Ok P w K mg base 3 "light_of" ["doors", "masks"] (sp_light_of K) := by
  obtain ⟨fd, F⟩ := c.d.def_ 10 (d := d_light_of) rfl
  refine ⟨c.g_light_of, fd, ?_, FunD.bindsN F (fun _ _ _ _ _ _ us hl => match us, hl with | [_, _], _ => rfl), F.kp⟩
  refine okN F sc_light_of (fun vs H Q E h => ?_) (fun cdv A outer s H vs Q E hr h => ?_)
  · obtain ⟨v, u, ds, ms, R, rfl, _⟩ := h
    rfl
  · obtain ⟨v, u, ds, ms, R, rfl, hv, hu, hd, hm, hne, hlen, q⟩ := h
    refine ⟨_, (pss_cons (ps_par (i := 2) (j := 3) (by rfl) sc_light_of.nd rfl rfl (by decide) rfl rfl (pa_cons (pe_callTy (call_listK (K := K) rfl) (by rfl) c.n_list (by decide +kernel) (pa_cons (pv 1) pa_nil)) (pa_cons pe_non pa_nil)) (by rfl))
      (pss_cons (ps_while PassesOwn.never (pt_cmpR (op_neDK (K := K) rfl hr.units) (pv 2) (pv 3) (nomark _)) (pss_cons (ps_par (i := 3) (j := 2) (by rfl) sc_light_of.nd rfl rfl (by decide) rfl rfl (pa_cons (pv 2) (pa_cons (pe_lc (own := [("mask", 4)]) (g := gName 4) (tt := tYes) (by rfl) sc_light_of.nd (pi_list (pv 2)) (blkOk_by (own := [("mask", 4)]) (N := ["doors", "masks", "found", "before", "mask", "ahead", "behind", "come", "back"]) (sc := defScope s_light_of) (by decide +kernel)) (fun _ _ _ _ _ => (pg_name (i := 4) sc_light_of.nd rfl (Or.inl rfl))) (fun _ _ _ _ _ => pts_nil) (fun _ _ _ _ _ => (pe_c O_closed_at hr (pa_cons (pv 0) (pa_cons (pv 4) pa_nil))))) pa_nil)) (by rfl))
      (pss_cons (ps_setLc (i := 5) (own := [("mask", 4)]) (g := gName 4) (tt := tYes) (by rfl) sc_light_of.nd rfl rfl (sw_true rfl rfl rfl (by decide +kernel)) (pi_list (pv 2)) (blkOk_by (own := [("mask", 4)]) (N := ["doors", "masks", "found", "before", "mask", "ahead", "behind", "come", "back"]) (sc := defScope s_light_of) (by decide +kernel)) (fun _ _ _ _ _ => (pg_name (i := 4) sc_light_of.nd rfl (Or.inl rfl))) (fun _ _ _ _ _ => pts_nil) (fun _ _ _ _ _ => (pe_c O_sent_from hr (pa_cons (pv 0) (pa_cons (pv 4) (pa_cons pe_int pa_nil))))))
      (pss_cons (ps_setLc (i := 6) (own := [("mask", 4)]) (g := gName 4) (tt := tYes) (by rfl) sc_light_of.nd rfl rfl (sw_true rfl rfl rfl (by decide +kernel)) (pi_list (pv 2)) (blkOk_by (own := [("mask", 4)]) (N := ["doors", "masks", "found", "before", "mask", "ahead", "behind", "come", "back"]) (sc := defScope s_light_of) (by decide +kernel)) (fun _ _ _ _ _ => (pg_name (i := 4) sc_light_of.nd rfl (Or.inl rfl))) (fun _ _ _ _ _ => pts_nil) (fun _ _ _ _ _ => (pe_c O_sent_from hr (pa_cons (pv 0) (pa_cons (pv 4) (pa_cons (pe_un un_neg pe_int) pa_nil))))))
      (pss_one (ps_setLc (i := 2) (own := [("mask", 4), ("come", 7), ("back", 8)]) (tt := tYes) (by rfl) sc_light_of.nd rfl rfl (sw_true rfl rfl rfl (by decide +kernel)) (pi_zip3 (by rfl) c.n_zip (pa_cons (pv 2) (pa_cons (pe_op op_cat (pe_lst (pa_cons pe_int pa_nil)) (pe_slice (sl_listK (K := K) rfl) (pv 5) po_none (po_some (pe_un un_neg pe_int)))) (pa_cons (pe_op op_cat (pe_slice (sl_listK (K := K) rfl) (pv 6) (po_some pe_int) po_none) (pe_lst (pa_cons pe_int pa_nil))) pa_nil)))) (blkOk_by (own := [("mask", 4), ("come", 7), ("back", 8)]) (N := ["doors", "masks", "found", "before", "mask", "ahead", "behind", "come", "back"]) (sc := defScope s_light_of) (by decide +kernel)) (fun _ _ _ _ _ => (pg_tupK (K := K) (n := 3) rfl rfl (pgs_cons (pg_name (i := 4) sc_light_of.nd rfl (Or.inl rfl)) (pgs_cons (pg_name (i := 7) sc_light_of.nd rfl (Or.inl rfl)) (pgs_cons (pg_name (i := 8) sc_light_of.nd rfl (Or.inl rfl)) pgs_nil))))) (fun _ _ _ _ _ => pts_nil) (fun _ _ _ _ _ => (pe_op op_or (pe_op op_or (pv 4) (pv 7)) (pv 8)))))))))
      (pss_one (ps_ret (pv 2))))), ?_⟩
    obtain ⟨a, rfl, ha⟩ := dp_lN hu
    refine ⟨_, rfl, a, _, rfl, .inl ha, fun f0 hf0 => ⟨_, _, rfl, ?_⟩⟩
    refine ⟨fun k σ H' => Same H H' ∧ ∃ (f : Addr) (L : List Nat) (b : V) (o4 o5 o6 o7 o8 : Option V), σ = [some v, some (.ref a), some (.ref f), some b, o4, o5, o6, o7, o8] ∧ H' f = some (.lst (L.map vN)) ∧ Sound ds ms L ∧
      ((b = .non ∧ k = 2 * darkOf R L + 1) ∨ ∃ g G, b = .ref g ∧ H' g = some (.lst (G.map vN)) ∧ (L = G → IsLight ds ms L) ∧ k = 2 * darkOf R L + (if L = G then 0 else 1)),
      ⟨_, same_upd hf0, f0, ms, .non, none, none, none, none, none, rfl, upd_same, .start, .inl ⟨rfl, rfl⟩⟩, ?_⟩
    rintro k σ H1 ⟨s1, f, L, b, o4, o5, o6, o7, o8, rfl, hf, hS, hb⟩
    have hLne : L ≠ [] := fun e => hne (List.length_eq_zero_iff.mp (by rw [← hS.len, e]; rfl))
    have hLlen : L.length ≤ 100 := by rw [hS.len]; exact hlen
    have key : (∃ d, Dp K H1 b d ∧ SeqAt.shaped d = true ∧ PyData.eqv (lN L) d = false ∧ k = 2 * darkOf R L + 1) ∨ ∃ g, b = .ref g ∧ H1 g = some (.lst (L.map vN)) ∧ IsLight ds ms L := by
      rcases hb with ⟨rfl, hk⟩ | ⟨g, G, rfl, hg, hi, hk⟩
      · exact .inl ⟨.none, .non, by decide, rfl, hk⟩
      · by_cases e : L = G
        · exact .inr ⟨g, rfl, e ▸ hg, hi e⟩
        · rw [if_neg e] at hk
          exact .inl ⟨lN G, dp_lN_mk (.inl (.inl hg)), (tame_lN G).shaped (by decide), by rw [eqv_lN]; exact decide_eq_false e, hk⟩
    have hLf : Dp K H1 (.ref f) (lN L) := dp_lN_mk (.inl (.inl hf))
    rcases key with ⟨d, hbd, hsh, heq, rfl⟩ | ⟨g, rfl, hg, hI⟩
    · refine ⟨_, rfl, _, rfl, lN L, d, hLf, hbd, (tame_lN L).shaped (by decide), hsh, _, rfl, itP (by rw [heq]; rfl) ?_⟩
      refine ⟨fun σ' H' => Same H H' ∧ ∃ (f' : Addr) (L' C : List Nat) (o4 o5 o6 o7 o8 : Option V), σ' = [some v, some (.ref a), some (.ref f'), some (.ref f), o4, o5, o6, o7, o8] ∧ H' f' = some (.lst (L'.map vN)) ∧ H' f = some (.lst (L.map vN)) ∧ NextRound ds L C L', ?_, ?_⟩
      · rintro σ' H' ⟨s', f', L', C, o4, o5, o6, o7, o8, rfl, hf', hff, hN⟩
        have hS' := hN.sound hS
        refine ⟨2 * darkOf R L' + (if L' = L then 0 else 1), ?_, s', f', L', .ref f, o4, o5, o6, o7, o8, rfl, hf', hS', .inr ⟨f, L, rfl, hff, fun e => ?_, rfl⟩⟩
        · by_cases e : L' = L
          · rw [if_pos e, e]
            omega
          · rw [if_neg e]
            have := hN.less hS hm hd.room e
            omega
        · rw [e] at hN ⊢
          exact hN.done hd.shift hS
      -- before, found = found, [closed_at(doors, mask) for mask in found]
      · refine ⟨_, rfl, _, rfl, f, rfl, ⟨_, .inl (.inl hf)⟩, fun D hD => ?_⟩
        refine lc_list (xs := L.map vN) (fun i H' => Same H1 H' ∧ ∃ C : List Nat, H' D = some (.lst (C.map vN)) ∧ C.length = i ∧ ∀ t, t < i → Closed ds (L.getD t 0) (C.getD t 0)) ⟨same_upd hD, [], upd_same, rfl, fun t ht => by omega⟩ (fun i H' _ p => p.1.seq (.inl (.inl hf))) ?_ ?_
        · rintro i x H2 hi ⟨s2, C, e2, hC, hcl⟩
          obtain ⟨hil, rfl⟩ := get_getD hi
          have hb2 : L.getD i 0 < 2 ^ R := hS.lt hm hd.room _ (by rw [List.getD_eq_getElem?_getD, List.getElem?_eq_getElem hil]; exact List.getElem_mem hil)
          refine ⟨rfl, _, rfl, _, rfl, v, ds, L.getD i 0, R, rfl, dp_mono (s1.trans s2) hv, hd, hb2, fun c0 hc0 => ?_⟩
          refine ⟨_, e2, by rw [List.length_map, hC]; exact small100 (by omega), same_put s2 hD, C ++ [c0], by rw [upd_same, List.map_append]; rfl, by rw [List.length_append, hC]; rfl, fun t ht => ?_⟩
          rw [List.getD_eq_getElem?_getD (l := C ++ [c0]), List.getElem?_append]
          by_cases e : t < C.length
          · rw [if_pos e, ← List.getD_eq_getElem?_getD]
            exact hcl t (by omega)
          · have et : t = i := by omega
            rw [if_neg e, et, hC, Nat.sub_self]
            exact hc0
        · rintro H2 ⟨s2, C, e2, hC, hcl⟩
          rw [List.length_map] at hC hcl
          have hCne : C ≠ [] := fun e => hLne (List.length_eq_zero_iff.mp (by rw [← hC, e]; rfl))
          refine ⟨_, _, rfl, ?_⟩
          -- ahead, behind
          refine ⟨_, rfl, D, rfl, ⟨_, .inl (.inl e2)⟩, fun D2 hD2 => ?_⟩
          refine lc_list (xs := C.map vN) (fun i H' => Same H2 H' ∧ H' D2 = some (.lst (((C.take i).map fun m => sentFrom ds m 1).map vN))) ⟨same_upd hD2, upd_same⟩ (fun i H' _ p => p.1.seq (.inl (.inl e2))) ?_ ?_
          · rintro i x H3 hi ⟨s3, e3⟩
            obtain ⟨y, hy, rfl⟩ := map_get hi
            have hil := (List.getElem?_eq_some_iff.mp hy).1
            refine ⟨rfl, _, rfl, _, rfl, v, ds, y, 1, rfl, dp_mono (s1.trans (s2.trans s3)) hv, hd.s, _, e3, by rw [List.length_map, List.length_map, List.length_take]; exact small100 (by omega), same_put s3 hD2, ?_⟩
            rw [upd_same, take_snoc hy, List.map_append]
            rfl
          rintro H3 ⟨s3, e3⟩
          rw [List.length_map, take_all] at e3
          have e2' := s3 _ _ e2
          refine ⟨_, rfl, D, rfl, ⟨_, .inl (.inl e2')⟩, fun D3 hD3 => ?_⟩
          refine lc_list (xs := C.map vN) (fun i H' => Same H3 H' ∧ H' D3 = some (.lst (((C.take i).map fun m => sentFrom ds m (-1)).map vN))) ⟨same_upd hD3, upd_same⟩ (fun i H' _ p => p.1.seq (.inl (.inl e2'))) ?_ ?_
          · rintro i x H4 hi ⟨s4, e4⟩
            obtain ⟨y, hy, rfl⟩ := map_get hi
            have hil := (List.getElem?_eq_some_iff.mp hy).1
            refine ⟨rfl, _, rfl, _, rfl, _, rfl, v, ds, y, -1, rfl, dp_mono (s1.trans (s2.trans (s3.trans s4))) hv, hd.s, _, e4, by rw [List.length_map, List.length_map, List.length_take]; exact small100 (by omega), same_put s4 hD3, ?_⟩
            rw [upd_same, take_snoc hy, List.map_append]
            rfl
          rintro H4 ⟨s4, e4⟩
          rw [List.length_map, take_all] at e4
          have e3' := s4 _ _ e3
          have e2'' := s4 _ _ e2'
          have hClen : C.length ≤ 100 := by omega
          -- zip(found, [0] + ahead[:-1], behind[1:] + [0])
          refine ⟨_, rfl, by decide, fun l0 hl0 => ?_⟩
          have t1 : Same H4 (upd H4 l0 (.lst [V.int 0])) := same_upd hl0
          refine ⟨_, rfl, _, rfl, _, rfl, D2, _, rfl, .inl (.inl (t1 _ _ e3')), fun l1 hl1 => ?_⟩
          have t2 := t1.trans (same_upd (o := .lst (cutV (((C.map fun m => sentFrom ds m 1)).map vN) none (some (-1)))) hl1)
          refine ⟨l0, l1, _, _, rfl, rfl, by rw [upd_ne (ne_of_none upd_same hl1)]; exact upd_same, upd_same, ?_, fun l2 hl2 => ?_⟩
          · have := cutV_length (((C.map fun m => sentFrom ds m 1)).map vN) none (some (-1))
            rw [List.length_map, List.length_map] at this
            rw [List.length_singleton]
            exact le1000 (by omega)
          have t3 := t2.trans (same_upd (o := .lst ([V.int 0] ++ cutV (((C.map fun m => sentFrom ds m 1)).map vN) none (some (-1)))) hl2)
          refine ⟨_, rfl, 1, rfl, D3, _, rfl, .inl (.inl (t3 _ _ e4)), fun l3 hl3 => ?_⟩
          have t4 := t3.trans (same_upd (o := .lst (cutV (((C.map fun m => sentFrom ds m (-1))).map vN) (some 1) none)) hl3)
          refine ⟨by decide, fun l4 hl4 => ?_⟩
          have t5 := t4.trans (same_upd (o := .lst [V.int 0]) hl4)
          refine ⟨l3, l4, _, _, rfl, rfl, by rw [upd_ne (ne_of_none upd_same hl4)]; exact upd_same, upd_same, ?_, fun l5 hl5 => ?_⟩
          · have := cutV_length (((C.map fun m => sentFrom ds m (-1))).map vN) (some 1) none
            rw [List.length_map, List.length_map] at this
            rw [List.length_singleton]
            exact le1000 (by omega)
          have t6 := t5.trans (same_upd (o := .lst (cutV (((C.map fun m => sentFrom ds m (-1))).map vN) (some 1) none ++ [V.int 0])) hl5)
          have ecome : [V.int 0] ++ cutV (((C.map fun m => sentFrom ds m 1)).map vN) none (some (-1)) = (comeL ds C).map vN := by
            rw [cut_front, ← List.map_dropLast]
            rfl
          have eback : cutV (((C.map fun m => sentFrom ds m (-1))).map vN) (some 1) none ++ [V.int 0] = (backL ds C).map vN := by
            rw [cut_rest, ← List.map_drop]
            unfold backL
            rw [List.map_append]
            rfl
          have g2 : SqL K (upd (upd (upd (upd (upd (upd H4 l0 (.lst [V.int 0])) l1 (.lst (cutV (((C.map fun m => sentFrom ds m 1)).map vN) none (some (-1))))) l2 (.lst ([V.int 0] ++ cutV (((C.map fun m => sentFrom ds m 1)).map vN) none (some (-1))))) l3 (.lst (cutV (((C.map fun m => sentFrom ds m (-1))).map vN) (some 1) none))) l4 (.lst [V.int 0])) l5 (.lst (cutV (((C.map fun m => sentFrom ds m (-1))).map vN) (some 1) none ++ [V.int 0]))) l2 ((comeL ds C).map vN) := by
            rw [← ecome]
            exact .inl (.inl ((same_upd hl5) _ _ ((same_upd hl4) _ _ ((same_upd hl3) _ _ upd_same))))
          have g3 : SqL K (upd (upd (upd (upd (upd (upd H4 l0 (.lst [V.int 0])) l1 (.lst (cutV (((C.map fun m => sentFrom ds m 1)).map vN) none (some (-1))))) l2 (.lst ([V.int 0] ++ cutV (((C.map fun m => sentFrom ds m 1)).map vN) none (some (-1))))) l3 (.lst (cutV (((C.map fun m => sentFrom ds m (-1))).map vN) (some 1) none))) l4 (.lst [V.int 0])) l5 (.lst (cutV (((C.map fun m => sentFrom ds m (-1))).map vN) (some 1) none ++ [V.int 0]))) l5 ((backL ds C).map vN) := by
            rw [← eback]
            exact .inl (.inl upd_same)
          have g1 : SqL K (upd (upd (upd (upd (upd (upd H4 l0 (.lst [V.int 0])) l1 (.lst (cutV (((C.map fun m => sentFrom ds m 1)).map vN) none (some (-1))))) l2 (.lst ([V.int 0] ++ cutV (((C.map fun m => sentFrom ds m 1)).map vN) none (some (-1))))) l3 (.lst (cutV (((C.map fun m => sentFrom ds m (-1))).map vN) (some 1) none))) l4 (.lst [V.int 0])) l5 (.lst (cutV (((C.map fun m => sentFrom ds m (-1))).map vN) (some 1) none ++ [V.int 0]))) D (C.map vN) := .inl (.inl (t6 _ _ e2''))
          have sAll := s1.trans (s2.trans (s3.trans (s4.trans t6)))
          have hf6 := t6 _ _ (s4 _ _ (s3 _ _ (s2 _ _ hf)))
          clear t1 t2 t3 t4 t5 t6 ecome eback
          generalize (upd (upd (upd (upd (upd (upd H4 l0 (.lst [V.int 0])) l1 (.lst (cutV (((C.map fun m => sentFrom ds m 1)).map vN) none (some (-1))))) l2 (.lst ([V.int 0] ++ cutV (((C.map fun m => sentFrom ds m 1)).map vN) none (some (-1))))) l3 (.lst (cutV (((C.map fun m => sentFrom ds m (-1))).map vN) (some 1) none))) l4 (.lst [V.int 0])) l5 (.lst (cutV (((C.map fun m => sentFrom ds m (-1))).map vN) (some 1) none ++ [V.int 0]))) = H6 at g1 g2 g3 sAll hf6 ⊢
          refine ⟨D, l2, l5, _, _, _, rfl, g1, g2, g3, fun D5 hD5 => ?_⟩
          refine lc_it (walk_zip3 (xs := C.map vN) (ys := (comeL ds C).map vN) (zs := (backL ds C).map vN) (by rw [List.length_map, List.length_map, comeL_len hCne]) (by rw [List.length_map, List.length_map, backL_len hCne]))
            (fun i H' => Same H6 H' ∧ ∃ L2 : List Nat, H' D5 = some (.lst (L2.map vN)) ∧ L2.length = i ∧ ∀ t, t < i → L2.getD t 0 = C.getD t 0 ||| (comeL ds C).getD t 0 ||| (backL ds C).getD t 0)
            ⟨same_upd hD5, [], upd_same, rfl, fun t ht => by omega⟩ (fun i H' _ p => ⟨p.1.seq g1, p.1.seq g2, p.1.seq g3⟩) ?_ ?_
          · rintro i x H7 H8 hi ⟨s7, L2, e7, hL2, hbit⟩ ⟨T, x1, x2, x3, rfl, hT, rfl, f1, f2, f3⟩
            obtain ⟨i1, rfl⟩ := get_getD f1
            obtain ⟨i2, rfl⟩ := get_getD f2
            obtain ⟨i3, rfl⟩ := get_getD f3
            have nT : T ≠ D5 := fun z => by rw [z, e7] at hT; cases hT
            refine ⟨T, _, rfl, .inl (.inl upd_same), rfl, _, _, rfl, _, _, rfl, _, _, rfl, rfl, rfl, ?_⟩
            refine ⟨_, rfl, _, rfl, _, _, rfl, rfl, _, rfl, _, _, rfl, rfl, L2.map vN, ?_, ?_, same_put (s7.trans (same_upd hT)) hD5, L2 ++ [C.getD i 0 ||| (comeL ds C).getD i 0 ||| (backL ds C).getD i 0], ?_, by rw [List.length_append, hL2]; rfl, fun t ht => ?_⟩
            · rw [upd_ne nT.symm]
              exact e7
            · rw [List.length_map, hL2]
              exact small100 (by omega)
            · rw [upd_same, List.map_append]
              show some (HO.lst (_ ++ [V.int (Builtin.bitOr (Builtin.bitOr ((C.getD i 0 : Nat) : Int) (((comeL ds C).getD i 0 : Nat) : Int)) (((backL ds C).getD i 0 : Nat) : Int))])) = _
              rw [or_nat, or_nat]
              rfl
            · rw [List.getD_eq_getElem?_getD (l := L2 ++ _), List.getElem?_append]
              by_cases e : t < L2.length
              · rw [if_pos e, ← List.getD_eq_getElem?_getD]
                exact hbit t (by omega)
              · have et : t = i := by omega
                rw [if_neg e, et, hL2, Nat.sub_self]
                rfl
          · rintro H7 ⟨s7, L2, e7, hL2, hbit⟩
            rw [List.length_map] at hL2 hbit
            refine ⟨sAll.trans s7, D5, L2, C, o4, some (.ref D2), some (.ref D3), o7, o8, rfl, e7, s7 _ _ hf6, ⟨hC, hcl, by omega, fun t ht => ?_⟩⟩
            rw [hbit t (by omega), comeL_get (by omega), backL_get (by omega), hC]
    · refine ⟨_, rfl, _, rfl, lN L, lN L, hLf, dp_lN_mk (.inl (.inl hg)), (tame_lN L).shaped (by decide), (tame_lN L).shaped (by decide), _, rfl, itN (by rw [eqv_lN]; simp) ?_⟩
      exact ⟨_, rfl, q _ _ _ s1 hLf hI⟩
end
end K30

/-! #### E -/
namespace K30
open PySem PySem.Spec PyProof.Rows L2
def toI (l : List Nat) : List Int := l.map fun (n : Nat) => ((n : Nat) : Int)
theorem toI_V (l : List Nat) : (toI l).map V.int = l.map vN := by
  unfold toI
  rw [List.map_map]
  rfl
theorem toI_back (l : List Nat) : (toI l).map Int.toNat = l := by
  unfold toI
  rw [List.map_map]
  exact (List.map_congr_left fun a _ => Int.toNat_natCast a).trans (List.map_id l)
theorem perm_toI {cs : List (List Int)} {ls : List (List Nat)} (h : cs.Perm (ls.map toI)) : ∃ ds : List (List Nat), cs = ds.map toI ∧ ds.Perm ls := by
  refine ⟨cs.map fun c => c.map Int.toNat, ?_, ?_⟩
  · rw [List.map_map]
    refine ((List.map_congr_left fun c hc => ?_).trans (List.map_id cs)).symm
    obtain ⟨l, _, rfl⟩ := List.mem_map.mp (h.mem_iff.mp hc)
    show toI ((toI l).map Int.toNat) = id (toI l)
    rw [toI_back]
    rfl
  · have := h.map fun c => c.map Int.toNat
    rw [List.map_map] at this
    have e : ((fun c : List Int => c.map Int.toNat) ∘ toI) = id := funext fun l => toI_back l
    rw [e, List.map_id] at this
    exact this
theorem lAll_mono {K : PySem.W.Frag} {H H' : Hp} (s : Same H H') : ∀ {xs : List V} {bs : List (List Int)}, LAll K H xs bs → LAll K H' xs bs
  | _, _, .nil => .nil
  | _, _, .cons h t => by
    obtain ⟨a, e, q⟩ := h
    exact .cons ⟨a, e, s.seq q⟩ (lAll_mono s t)
theorem lAll_snoc {K : PySem.W.Frag} {H : Hp} : ∀ {xs : List V} {bs : List (List Int)} {x : V} {b : List Int}, LAll K H xs bs → LInt K H x b → LAll K H (xs ++ [x]) (bs ++ [b])
  | _, _, _, _, .nil, h => .cons h .nil
  | _, _, _, _, .cons a t, h => .cons a (lAll_snoc t h)
theorem lAll_len {K : PySem.W.Frag} {H : Hp} : ∀ {xs : List V} {bs : List (List Int)}, LAll K H xs bs → xs.length = bs.length
  | _, _, .nil => rfl
  | _, _, .cons _ t => congrArg Nat.succ (lAll_len t)
theorem lAll_dp {K : PySem.W.Frag} {H : Hp} : ∀ {xs : List V} {ds : List (List Nat)}, LAll K H xs (ds.map toI) → DpAll K H xs (ds.map lN)
  | _, [], h => by cases h; exact .nil
  | _, d :: ds, h => by
    cases h with
    | cons h t =>
      obtain ⟨a, rfl, q⟩ := h
      rw [toI_V] at q
      exact .cons (dp_lN_mk q) (lAll_dp t)
/-- the steps from a to b -/
def selS (h : Hs) (a b i : Nat) : List Stp := (h.steps.take i).filter fun s => decide (s.place = a ∧ s.goal = b)
theorem selS_succ {h : Hs} {a b i : Nat} {s : Stp} (e : h.steps[i]? = some s) : selS h a b (i + 1) = selS h a b i ++ (if s.place = a ∧ s.goal = b then [s] else []) := by
  unfold selS
  rw [List.take_add_one, e, List.filter_append]
  congr 1
  by_cases q : s.place = a ∧ s.goal = b
  · rw [if_pos q, Option.toList_some, List.filter_cons_of_pos (by simpa using q), List.filter_nil]
  · rw [if_neg q, Option.toList_some, List.filter_cons_of_neg (by simpa using q), List.filter_nil]
theorem selS_len (h : Hs) (a b i : Nat) : (selS h a b i).length ≤ i := by
  unfold selS
  refine Nat.le_trans (List.length_filter_le _ _) ?_
  rw [List.length_take]
  omega
section
variable {P : Program} {w : World} {K : PySem.W.Frag} {mg : Str → Option Value} {base : Heap}
def sp_needs_between (K : PySem.W.Frag) : Sp := fun vs H Q _ => ∃ (v : V) (h : Hs) (a b : Nat), vs = [v, vN a, vN b] ∧ Dp K H v h.data ∧ HsOk h ∧ ∀ H' v' (cs : List (List Nat)), Same H H' → Dp K H' v' (.list (cs.map lN)) →
  (∀ l, l ∈ cs ↔ ∃ s ∈ h.steps, s.place = a ∧ s.goal = b ∧ s.needs = l) → cs.length ≤ 100 → Q v' H'
theorem sc_needs_between : FnScope ["house", "place", "goal", "step", "found", "at", "needs"] ["house", "place", "goal"] (defScope s_needs_between) := ⟨rfl, rfl, rfl, by decide +kernel, rfl, by decide +kernel, by decide +kernel⟩
theorem ok_needs_between (c : Cf K mg)  : Ok P w K mg base 1 "needs_between" ["house", "place", "goal"] (sp_needs_between K) := by
  obtain ⟨fd, F⟩ := c.d.def_ 14 (d := d_needs_between) rfl
  refine ⟨c.g_needs_between, fd, ?_, FunD.bindsN F (fun _ _ _ _ _ _ us hl => match us, hl with | [_, _, _], _ => rfl), F.kp⟩
  refine okN F sc_needs_between (fun vs H Q E h => ?_) (fun cdv A outer s H vs Q E hr h => ?_)
  · obtain ⟨v, h, a, b, rfl, _⟩ := h
    rfl
  · obtain ⟨v, h, a, b, rfl, hv, hh, q⟩ := h
    refine ⟨_, (pss_cons (ps_set (i := 4) sc_needs_between.nd rfl (Or.inr rfl) (pe_callB (cr_sortedLL hr.units) (by rfl) c.n_sorted (by decide +kernel) (pa_cons (pe_lc (own := [("step", 3)]) (g := gName 3) (by rfl) sc_needs_between.nd (pi_list (pe_ix (ix_tupK (K := K) rfl) (pv 0) pe_int (fun _ _ => rfl))) (blkOk_by (own := [("step", 3)]) (N := ["house", "place", "goal", "step", "found", "at", "needs"]) (sc := defScope s_needs_between) (by decide +kernel)) (fun _ _ _ _ _ => (pg_name (i := 3) sc_needs_between.nd rfl (Or.inl rfl))) (fun _ _ _ _ _ => (pts_one (PW.pt (pw_and (pt_cmpR op_eq (pe_ix (ix_tupK (K := K) rfl) (pv 3) pe_int (fun _ _ => rfl)) (pv 1) (nomark _)) (pw_and1 (pt_cmpR op_eq (pe_ix (ix_tupK (K := K) rfl) (pv 3) pe_int (fun _ _ => rfl)) (pv 2) (nomark _))))))) (fun _ _ _ _ _ => (pe_ix (ix_tupK (K := K) rfl) (pv 3) pe_int (fun _ _ => rfl)))) pa_nil)))
      (pss_one (ps_ret (pe_lc (own := [("at", 5), ("needs", 6)]) (by rfl) sc_needs_between.nd (pi_enum (by rfl) c.n_enumerate (pa_cons (pv 4) pa_nil)) (blkOk_by (own := [("at", 5), ("needs", 6)]) (N := ["house", "place", "goal", "step", "found", "at", "needs"]) (sc := defScope s_needs_between) (by decide +kernel)) (fun _ _ _ _ _ => (pg_tupK (K := K) (n := 2) rfl rfl (pgs_cons (pg_name (i := 5) sc_needs_between.nd rfl (Or.inl rfl)) (pgs_cons (pg_name (i := 6) sc_needs_between.nd rfl (Or.inl rfl)) pgs_nil)))) (fun _ _ _ _ _ => (pts_one (PW.pt (pw_or (pt_cmpR op_eq (pv 5) pe_int (nomark _)) (pw_or1 (pt_cmpR (op_neDK (K := K) rfl hr.units) (pe_ix (ix_listK (K := K) rfl) (pv 4) (pe_op op_sub (pv 5) pe_int) (fun _ _ => rfl)) (pv 6) (nomark _))))))) (fun _ _ _ _ _ => (pe_callTy (call_listK (K := K) rfl) (by rfl) c.n_list (by decide +kernel) (pa_cons (pv 6) pa_nil))))))), ?_⟩
    obtain ⟨p, lv, ap, ps, bp, ss, rfl, hp, hlv, hap, hpa, hbp, hsb⟩ := dp_house hv
    have hsl : ss.length = h.steps.length := by rw [dpAll_len hsb, List.length_map]
    have hsf := hh.sfew
    refine ⟨_, rfl, p, _, _, _, rfl, rfl, hp, rfl, bp, rfl, ⟨_, hbp⟩, fun D hD => ?_⟩
    refine lc_list (xs := ss) (fun i H' => Same H H' ∧ ∃ ys, H' D = some (.lst ys) ∧ LAll K H ys (((selS h a b i).map Stp.needs).map toI)) ⟨same_upd hD, [], upd_same, .nil⟩ (fun i H' _ p => p.1.seq hbp) ?_ ?_
    · rintro i x H1 hi ⟨s1, ys, e1, hys⟩
      obtain ⟨e, he, hxe⟩ := dpAll_at hsb hi
      obtain ⟨z, hz, rfl⟩ := map_get he
      obtain ⟨t, n, rfl, ht, hn⟩ := dp_stp hxe
      have hlen := lAll_len hys
      rw [List.length_map, List.length_map] at hlen
      have hil := (List.getElem?_eq_some_iff.mp hz).1
      have hsel := selS_len h a b i
      have ht1 := same_seqT s1 ht
      refine ⟨rfl, _, rfl, t, _, _, _, rfl, rfl, ht1, rfl, _, rfl, rfl, _, rfl, ?_⟩
      by_cases q1 : z.place = a
      · refine itP (decide_eq_true (by rw [q1])) ⟨_, rfl, t, _, _, _, rfl, rfl, ht1, rfl, _, rfl, rfl, _, rfl, ?_⟩
        by_cases q2 : z.goal = b
        · refine itP (decide_eq_true (by rw [q2])) ⟨_, rfl, t, _, _, _, rfl, rfl, ht1, rfl, ys, e1, small100 (by omega), same_put s1 hD, _, upd_same, ?_⟩
          rw [selS_succ hz, if_pos ⟨q1, q2⟩, List.map_append, List.map_append]
          exact lAll_snoc hys ⟨n, rfl, by rw [toI_V]; exact hn⟩
        · refine itN (decide_eq_false fun e => q2 (by have := V.int.inj e; omega)) ⟨s1, ys, e1, ?_⟩
          rw [selS_succ hz, if_neg (fun e => q2 e.2), List.append_nil]
          exact hys
      · refine itN (decide_eq_false fun e => q1 (by have := V.int.inj e; omega)) (itN rfl ⟨s1, ys, e1, ?_⟩)
        rw [selS_succ hz, if_neg (fun e => q1 e.1), List.append_nil]
        exact hys
    rintro H1 ⟨s1, ys, e1, hys⟩
    refine ⟨D, ys, _, rfl, .inl (.inl e1), lAll_mono s1 hys, fun zs cs F hperm hzs hF => ?_⟩
    obtain ⟨ds, rfl, hds⟩ := perm_toI hperm
    have s2 : Same H (upd H1 F (.lst zs)) := s1.trans (same_upd hF)
    have hdl : ds.length ≤ 100 := by
      have h1 := hds.length_eq
      have h2 := selS_len h a b ss.length
      rw [List.length_map] at h1
      omega
    have hzl : zs.length = ds.length := by rw [lAll_len hzs, List.length_map]
    have hmem : ∀ l, l ∈ ds ↔ ∃ s ∈ h.steps, s.place = a ∧ s.goal = b ∧ s.needs = l := fun l => by
      rw [hds.mem_iff, List.mem_map]
      unfold selS
      rw [hsl, List.take_length]
      constructor
      · rintro ⟨s, hs, rfl⟩
        rw [List.mem_filter] at hs
        have := of_decide_eq_true hs.2
        exact ⟨s, hs.1, this.1, this.2, rfl⟩
      · rintro ⟨s, h1, h2, h3, rfl⟩
        exact ⟨s, List.mem_filter.mpr ⟨h1, decide_eq_true ⟨h2, h3⟩⟩, rfl⟩
    have hdp := lAll_dp (lAll_mono (same_upd (o := .lst zs) hF) hzs)
    have hFz : (upd H1 F (.lst zs)) F = some (.lst zs) := upd_same
    generalize upd H1 F (.lst zs) = H2 at s2 hdp hFz ⊢
    clear hzs hys hperm
    refine ⟨_, rfl, F, zs, rfl, .inl (.inl hFz), fun D2 hD2 => ?_⟩
    refine lc_it (walk_enum (xs := zs)) (fun i H' => Same H2 H' ∧ ∃ ws es, H' D2 = some (.lst ws) ∧ DpAll K (hid D2 H') ws (es.map lN) ∧ es.length ≤ i ∧ ∀ l, l ∈ es ↔ l ∈ ds.take i) ⟨same_upd hD2, [], [], upd_same, .nil, Nat.le_refl _, fun l => by simp⟩ (fun i H' _ p => p.1.seq (.inl (.inl hFz))) ?_ ?_
    · rintro i x H3 H4 hi ⟨s3, ws, es, e3, hws, hel, hm⟩ ⟨T, x1, x2, rfl, hT, rfl, f1, f2⟩
      cases f1
      obtain ⟨dd, hdd, hx2⟩ := dpAll_at hdp f2
      obtain ⟨l, hl, rfl⟩ := map_get hdd
      obtain ⟨n, rfl, hn⟩ := dp_lN hx2
      have nT : T ≠ D2 := fun z => by rw [z, e3] at hT; cases hT
      have s4 : Same H2 (upd H3 T (.tup [.int (i : Nat), .ref n])) := s3.trans (same_upd hT)
      have hwl : ws.length = es.length := by rw [dpAll_len hws, List.length_map]
      have e4 : (upd H3 T (.tup [.int (i : Nat), .ref n])) D2 = some (.lst ws) := by rw [upd_ne nT.symm]; exact e3
      have hid4 : Same (hid D2 H3) (hid D2 (upd H3 T (.tup [.int (i : Nat), .ref n]))) := hid_mono (same_upd hT)
      have hil := (List.getElem?_eq_some_iff.mp hl).1
      refine ⟨T, _, rfl, .inl (.inl upd_same), rfl, _, _, rfl, _, _, rfl, rfl, rfl, ?_⟩
      generalize upd H3 T (.tup [.int (i : Nat), .ref n]) = H4 at s4 e4 hid4 ⊢
      have hws4 := dpAll_mono hid4 hws
      have keep : ∀ l0, H4 l0 = none → ∃ acc, (upd H4 l0 (.lst (l.map vN))) D2 = some (.lst acc) ∧ acc.length < sizeLine ∧ (Same H2 (upd (upd H4 l0 (.lst (l.map vN))) D2 (.lst (acc ++ [.ref l0]))) ∧
          ∃ (ws : List V) (es : List (List Nat)), (upd (upd H4 l0 (.lst (l.map vN))) D2 (.lst (acc ++ [.ref l0]))) D2 = some (.lst ws) ∧ DpAll K (hid D2 (upd (upd H4 l0 (.lst (l.map vN))) D2 (.lst (acc ++ [.ref l0])))) ws (es.map lN) ∧ es.length ≤ i + 1 ∧ ∀ l, l ∈ es ↔ l ∈ ds.take (i + 1)) := fun l0 hl0 => by
        have nl : l0 ≠ D2 := fun z => by rw [z, e4] at hl0; cases hl0
        refine ⟨ws, by rw [upd_ne nl.symm]; exact e4, small100 (by omega), same_put (s4.trans (same_upd hl0)) hD2, _, es ++ [l], upd_same, ?_, by rw [List.length_append, List.length_singleton]; omega, fun l' => ?_⟩
        · rw [hid_upd, List.map_append]
          refine dpAll_snoc (dpAll_mono (hid_mono (same_upd hl0)) hws4) (dp_lN_mk (.inl (.inl ?_)))
          rw [hid_ne nl]
          exact upd_same
        · rw [List.take_add_one, hl, List.mem_append, List.mem_append, hm l']
          rfl
      refine ⟨_, rfl, rfl, _, rfl, ?_⟩
      by_cases h0 : i = 0
      · refine itP (decide_eq_true (by rw [h0] <;> rfl)) (itP rfl ?_)
        exact ⟨_, rfl, n, _, rfl, .inl (s4.seq hn), keep⟩
      · obtain ⟨l1, hl1⟩ : ∃ l1, ds[i - 1]? = some l1 := ⟨_, List.getElem?_eq_getElem (show i - 1 < ds.length by omega)⟩
        obtain ⟨x0, hx0, hxl⟩ := dpAll_get hdp (show (ds.map lN)[i - 1]? = some (lN l1) by rw [List.getElem?_map, hl1]; rfl)
        refine itN (decide_eq_false fun e => h0 (by have := V.int.inj e; omega)) ?_
        refine ⟨_, rfl, _, rfl, _, _, rfl, rfl, F, _, _, _, rfl, rfl, s4.seq (.inl (.inl hFz)), ixn (j := i - 1) (by omega) hx0, _, rfl, lN l1, lN l, dp_mono s4 hxl, dp_lN_mk (s4.seq hn), (tame_lN l1).shaped (by decide), (tame_lN l).shaped (by decide), _, rfl, ?_⟩
        by_cases e : l1 = l
        · refine itN (by rw [eqv_lN, decide_eq_true e]; rfl) ⟨s4, ws, es, e4, hws4, by omega, fun l' => ?_⟩
          rw [hm l', List.take_add_one, hl, List.mem_append]
          constructor
          · exact .inl
          · rintro (h | h)
            · exact h
            · have : l' = l := by simpa using h
              rw [this, ← e]
              refine List.mem_of_getElem? (i := i - 1) ?_
              rw [List.getElem?_take_of_lt (by omega)]
              exact hl1
        · refine itP (by rw [eqv_lN, decide_eq_false e]; rfl) ?_
          exact ⟨_, rfl, n, _, rfl, .inl (s4.seq hn), keep⟩
    · rintro H3 ⟨s3, ws, es, e3, hws, hel, hm⟩
      refine q _ _ es (s2.trans s3) (.lst (.inl (.inl e3)) (dpAll_mono (hid_same D2 H3) hws)) (fun l => ?_) (by omega)
      rw [hm l, hzl, List.take_length]
      exact hmem l
end
end K30

/-! #### F -/
namespace K30
open PySem PySem.Spec PyProof.Rows L2
theorem get_walk {w : List Nat} {t : Nat} (h : t < w.length) : (w.map vN)[t]? = some (vN (w.getD t 0)) := by
  rw [List.getElem?_map, List.getD_eq_getElem?_getD, List.getElem?_eq_getElem h]
  rfl
theorem getD_get {w : List Nat} {t : Nat} (h : t < w.length) : w[t]? = some (w.getD t 0) := by
  rw [List.getD_eq_getElem?_getD, List.getElem?_eq_getElem h]
  rfl
theorem eqv_LL_nil (cs : List (List Nat)) : PyData.eqv (.list (cs.map lN)) (.list []) = cs.isEmpty := by cases cs <;> rfl
section
variable {P : Program} {w : World} {K : PySem.W.Frag} {mg : Str → Option Value} {base : Heap}
def sp_is_walk_in (K : PySem.W.Frag) : Sp := fun vs H Q _ => ∃ (v u : V) (h : Hs) (z : List Nat), vs = [v, u] ∧ Dp K H v h.data ∧ HsOk h ∧ Dp K H u (lN z) ∧ WalkOk h z ∧ ∀ H', Same H H' → Q (.bl true) H'
theorem sc_is_walk_in : FnScope ["house", "value", "item", "at", "pairs", "pair"] ["house", "value"] (defScope s_is_walk_in) := ⟨rfl, rfl, rfl, by decide +kernel, rfl, by decide +kernel, by decide +kernel⟩
theorem ok_is_walk_in (c : Cf K mg) (O_is_place : Ok P w K mg base 3 "is_place" ["house", "value"] (sp_is_place K)) (O_needs_between : Ok P w K mg base 1 "needs_between" ["house", "place", "goal"] (sp_needs_between K)) : Ok P w K mg base 4 "is_walk_in" ["house", "value"] (sp_is_walk_in K) := by
  obtain ⟨fd, F⟩ := c.d.def_ 16 (d := d_is_walk_in) rfl
  refine ⟨c.g_is_walk_in, fd, ?_, FunD.bindsN F (fun _ _ _ _ _ _ us hl => match us, hl with | [_, _], _ => rfl), F.kp⟩
  refine okN F sc_is_walk_in (fun vs H Q E h => ?_) (fun cdv A outer s H vs Q E hr h => ?_)
  · obtain ⟨v, u, h, z, rfl, _⟩ := h
    rfl
  · obtain ⟨v, u, h, z, rfl, hv, hh, hu, hz, q⟩ := h
    refine ⟨_, (pss_cons (ps_if (PW.pt (pw_or (pt_not (pt_val (pe_callB call_isi (by rfl) c.n_isinstance boot_isinstance (pa_cons (pv 1) (pa_cons (pe_bltn (v := .ty "list") (by rfl) c.n_list boot_list rfl) pa_nil))))) (pw_or (pt_cmpR (op_eqDK (K := K) rfl hr.units) (pv 1) (pe_lst pa_nil) (nomark _)) (pw_or1 (pt_cmpR (op_neDK (K := K) rfl hr.units) (pe_lc (own := [("item", 2)]) (g := gName 2) (by rfl) sc_is_walk_in.nd (pi_list (pv 1)) (blkOk_by (own := [("item", 2)]) (N := ["house", "value", "item", "at", "pairs", "pair"]) (sc := defScope s_is_walk_in) (by decide +kernel)) (fun _ _ _ _ _ => (pg_name (i := 2) sc_is_walk_in.nd rfl (Or.inl rfl))) (fun _ _ _ _ _ => (pts_one (pt_not (pt_val (pe_c O_is_place hr (pa_cons (pv 0) (pa_cons (pv 2) pa_nil))))))) (fun _ _ _ _ _ => (pv 2))) (pe_lst pa_nil) (nomark _)))))) (pss_one (ps_ret pe_bl)) pss_nil)
      (pss_cons (ps_setLc (i := 4) (own := [("at", 3)]) (g := gName 3) (tt := tYes) (by rfl) sc_is_walk_in.nd rfl rfl (sw_true rfl rfl rfl (by decide +kernel)) (pi_range2 (by rfl) c.n_range (pa_cons pe_int (pa_cons (pe_callB (call_lenK (K := K) rfl) (by rfl) c.n_len boot_len (pa_cons (pv 1) pa_nil)) pa_nil))) (blkOk_by (own := [("at", 3)]) (N := ["house", "value", "item", "at", "pairs", "pair"]) (sc := defScope s_is_walk_in) (by decide +kernel)) (fun _ _ _ _ _ => (pg_name (i := 3) sc_is_walk_in.nd rfl (Or.inl rfl))) (fun _ _ _ _ _ => pts_nil) (fun _ _ _ _ _ => (pe_tup (pa_cons (pe_ix (ix_listK (K := K) rfl) (pv 1) (pe_op op_sub (pv 3) pe_int) (fun _ _ => rfl)) (pa_cons (pe_ix (ix_listK (K := K) rfl) (pv 1) (pv 3) (fun _ _ => rfl)) pa_nil)))))
      (pss_one (ps_ret (pe_cmpR (op_eqDK (K := K) rfl hr.units) (pe_lc (own := [("pair", 5)]) (g := gName 5) (by rfl) sc_is_walk_in.nd (pi_list (pv 4)) (blkOk_by (own := [("pair", 5)]) (N := ["house", "value", "item", "at", "pairs", "pair"]) (sc := defScope s_is_walk_in) (by decide +kernel)) (fun _ _ _ _ _ => (pg_name (i := 5) sc_is_walk_in.nd rfl (Or.inl rfl))) (fun _ _ _ _ _ => (pts_one (PW.pt (pw_and (pt_cmpR op_ne (pe_ix (ix_tupK (K := K) rfl) (pv 5) pe_int (fun _ _ => rfl)) (pe_ix (ix_tupK (K := K) rfl) (pv 5) pe_int (fun _ _ => rfl)) (nomark _)) (pw_and1 (pt_cmpR (op_eqDK (K := K) rfl hr.units) (pe_c O_needs_between hr (pa_cons (pv 0) (pa_cons (pe_ix (ix_tupK (K := K) rfl) (pv 5) pe_int (fun _ _ => rfl)) (pa_cons (pe_ix (ix_tupK (K := K) rfl) (pv 5) pe_int (fun _ _ => rfl)) pa_nil)))) (pe_lst pa_nil) (nomark _))))))) (fun _ _ _ _ _ => (pv 5))) (pe_lst pa_nil) (nomark _)))))), ?_⟩
    obtain ⟨a, rfl, ha⟩ := dp_lN hu
    have hzf := hz.few
    refine ⟨_, rfl, _, _, _, _, _, rfl, .ty "list", tyL ha, kit_ty (r := true) (by decide +kernel), _, rfl, iteF ?_⟩
    refine ⟨_, rfl, Nat.zero_le _, fun e0 he0 => ⟨lN z, .list [], dp_mono (same_upd he0) hu, nil_dp upd_same, (tame_lN z).shaped (by decide), by decide, _, rfl, itN ?_ ?_⟩⟩
    · show PyData.eqv (.list (z.map iN)) (.list []) = false
      rw [eqv_nil]
      cases e : z with
      | nil => exact absurd e hz.ne
      | cons x l => rfl
    have s0 : Same H (upd H e0 (.lst [])) := same_upd he0
    refine ⟨_, rfl, a, rfl, ⟨_, s0.seq ha⟩, fun D hD => ?_⟩
    refine lc_list (xs := z.map vN) (fun i H' => Same H H' ∧ H' D = some (.lst [])) ⟨s0.trans (same_upd hD), upd_same⟩ (fun i H' _ p => p.1.seq ha) ?_ ?_
    · rintro i x H1 hi ⟨s1, e1⟩
      obtain ⟨n, hn, rfl⟩ := map_get hi
      exact ⟨rfl, _, rfl, _, rfl, v, h, n, rfl, dp_mono s1 hv, hz.places n (List.mem_of_getElem? hn), _, rfl, iteF ⟨s1, e1⟩⟩
    rintro H1 ⟨s1, e1⟩
    refine ⟨Nat.zero_le _, fun p hp => ⟨.list [], .list [], nil_dp (by rw [upd_ne (ne_of_none e1 hp)]; exact e1), nil_dp upd_same, by decide, by decide, _, rfl, iteF ?_⟩⟩
    have s2 : Same H (upd H1 p (.lst [])) := s1.trans (same_upd hp)
    generalize upd H1 p (.lst []) = H2 at s2 ⊢
    -- pairs
    refine ⟨_, rfl, a, _, rfl, .inl (s2.seq ha), _, _, rfl, ⟨ge62 (by decide), li62 (by decide), ge62 (by omega), lt62 (by rw [List.length_map]; omega)⟩, fun D2 hD2 => ?_⟩
    refine lc_range (fun i H' => Same H2 H' ∧ ∃ ys, H' D2 = some (.lst ys) ∧ ys.length = i ∧ DpAll K (hid D2 H') ys ((List.range i).map fun j => PyData.tuple [iN (z.getD j 0), iN (z.getD (j + 1) 0)])) ⟨same_upd hD2, [], upd_same, rfl, .nil⟩ ?_ ?_
    · rintro i H3 hi ⟨s3, ys, e3, hy, hys⟩
      have hi' : i + 1 < z.length := by
        rw [List.length_map] at hi
        omega
      have sa := (s2.trans s3).seq ha
      refine ⟨rfl, _, rfl, _, rfl, _, _, rfl, rfl, a, _, _, _, rfl, rfl, sa, ixn (by omega) (get_walk (t := i) (by omega)), _, rfl, _, rfl, a, _, _, _, rfl, rfl, sa, ixn (by omega) (get_walk hi'), (by show 2 ≤ sizeLine; decide), fun T hT => ?_⟩
      have nT : T ≠ D2 := fun z => by rw [z, e3] at hT; cases hT
      refine ⟨ys, by rw [upd_ne nT.symm]; exact e3, by rw [hy]; exact small100 (by omega), same_put (s3.trans (same_upd hT)) hD2, _, upd_same, by rw [List.length_append, hy]; rfl, ?_⟩
      rw [hid_upd, List.range_succ, List.map_append]
      refine dpAll_snoc (dpAll_mono (hid_mono (same_upd hT)) hys) (.tup (.inl (.inl ?_)) (.cons (.int _) (.cons (.int _) .nil)))
      rw [hid_ne nT]
      exact upd_same
    rintro H3 ⟨s3, ys, e3, hy, hys⟩
    have hys3 := dpAll_mono (hid_same D2 H3) hys
    have s4 := s2.trans s3
    refine ⟨_, rfl, D2, rfl, ⟨_, .inl (.inl e3)⟩, fun D3 hD3 => ?_⟩
    refine lc_list (xs := ys) (fun i H' => Same H3 H' ∧ H' D3 = some (.lst [])) ⟨same_upd hD3, upd_same⟩ (fun i H' _ p => p.1.seq (.inl (.inl e3))) ?_ ?_
    · rintro i x H4 hi ⟨s5, e5⟩
      obtain ⟨e, he, hxe⟩ := dpAll_at hys3 hi
      obtain ⟨j, hj, rfl⟩ := map_get he
      have hji : j = i ∧ i < ((z.map vN).length - 1 : Int).toNat := by
        rw [List.getElem?_eq_some_iff] at hj
        obtain ⟨h1, h2⟩ := hj
        rw [List.getElem_range] at h2
        rw [List.length_range] at h1
        exact ⟨h2.symm, h1⟩
      obtain ⟨rfl, hjl⟩ := hji
      rw [List.length_map] at hjl
      obtain ⟨t, x1, x2, rfl, ht, h1, h2⟩ := dp_tup2 hxe
      rw [dp_int h1, dp_int h2] at ht
      have ht5 := same_seqT s5 ht
      refine ⟨rfl, _, rfl, t, _, _, _, rfl, rfl, ht5, rfl, _, rfl, t, _, _, _, rfl, rfl, ht5, rfl, rfl, _, rfl, ?_⟩
      have hgo := hz.go j _ _ (getD_get (w := z) (t := j) (by omega)) (getD_get (w := z) (t := j + 1) (by omega))
      by_cases hab : z.getD j 0 = z.getD (j + 1) 0
      · refine itN (by rw [decide_eq_true (by rw [hab])]; rfl) (itN rfl ⟨s5, e5⟩)
      · refine itP (by rw [decide_eq_false fun e => hab (by have := V.int.inj e; omega)]; rfl) ?_
        refine ⟨_, rfl, _, rfl, t, _, _, _, rfl, rfl, ht5, rfl, _, rfl, t, _, _, _, rfl, rfl, ht5, rfl, v, h, _, _, rfl, dp_mono (s4.trans s5) hv, hh, fun H5 v5 cs s6 hcs hm hl => ?_⟩
        refine ⟨Nat.zero_le _, fun p2 hp2 => ⟨_, .list [], dp_mono (same_upd hp2) hcs, nil_dp upd_same, (tame_lNN cs).shaped (by decide), by decide, _, rfl, itN ?_ ⟨s5.trans (s6.trans (same_upd hp2)), (same_upd hp2) _ _ (s6 _ _ e5)⟩⟩⟩
        rw [eqv_LL_nil]
        rcases hgo with hgo | ⟨st, hst, g1, g2⟩
        · exact absurd hgo hab
        · cases e : cs with
          | nil =>
            have := (hm st.needs).mpr ⟨st, hst, g1, g2, rfl⟩
            rw [e] at this
            cases this
          | cons x l => rfl
    · rintro H4 ⟨s5, e5⟩
      exact ⟨Nat.zero_le _, fun p2 hp2 => ⟨.list [], .list [], nil_dp (by rw [upd_ne (ne_of_none e5 hp2)]; exact e5), nil_dp upd_same, by decide, by decide, q _ (s4.trans (s5.trans (same_upd hp2)))⟩⟩
def sp_check_walks (K : PySem.W.Frag) : Sp := fun vs H Q _ => ∃ (v u : V) (h : Hs) (ws : List (List Nat)), vs = [v, u] ∧ Dp K H v h.data ∧ HsOk h ∧ Dp K H u (walksD ws) ∧ WalksOk h ws ∧ ∀ H', Same H H' → Q .non H'
theorem sc_check_walks : FnScope ["house", "walks", "walk"] ["house", "walks"] (defScope s_check_walks) := ⟨rfl, rfl, rfl, by decide +kernel, rfl, by decide +kernel, by decide +kernel⟩
theorem ok_check_walks (c : Cf K mg) (O_check_house : Ok P w K mg base 8 "check_house" ["house"] (sp_check_house K)) (O_is_walk_in : Ok P w K mg base 4 "is_walk_in" ["house", "value"] (sp_is_walk_in K)) : Ok P w K mg base 9 "check_walks" ["house", "walks"] (sp_check_walks K) := by
  obtain ⟨fd, F⟩ := c.d.def_ 17 (d := d_check_walks) rfl
  refine ⟨c.g_check_walks, fd, ?_, FunD.bindsN F (fun _ _ _ _ _ _ us hl => match us, hl with | [_, _], _ => rfl), F.kp⟩
  refine okN F sc_check_walks (fun vs H Q E h => ?_) (fun cdv A outer s H vs Q E hr h => ?_)
  · obtain ⟨v, u, h, z, rfl, _⟩ := h
    rfl
  · obtain ⟨v, u, h, ws, rfl, hv, hh, hu, hw, q⟩ := h
    refine ⟨_, (pss_cons (ps_expr (pe_c O_check_house hr (pa_cons (pv 0) pa_nil)))
      (pss_one (ps_if (PW.pt (pw_or (pt_not (pt_val (pe_callB call_isi (by rfl) c.n_isinstance boot_isinstance (pa_cons (pv 1) (pa_cons (pe_bltn (v := .ty "list") (by rfl) c.n_list boot_list rfl) pa_nil))))) (pw_or1 (pt_cmpR (op_neDK (K := K) rfl hr.units) (pe_lc (own := [("walk", 2)]) (g := gName 2) (by rfl) sc_check_walks.nd (pi_list (pv 1)) (blkOk_by (own := [("walk", 2)]) (N := ["house", "walks", "walk"]) (sc := defScope s_check_walks) (by decide +kernel)) (fun _ _ _ _ _ => (pg_name (i := 2) sc_check_walks.nd rfl (Or.inl rfl))) (fun _ _ _ _ _ => (pts_one (pt_not (pt_val (pe_c O_is_walk_in hr (pa_cons (pv 0) (pa_cons (pv 2) pa_nil))))))) (fun _ _ _ _ _ => (pv 2))) (pe_lst pa_nil) (nomark _))))) (pss_one ps_never) pss_nil))), ?_⟩
    obtain ⟨a, xs, rfl, ha, hx⟩ := dp_list hu
    refine ⟨_, rfl, v, h, rfl, hv, hh, fun H1 s1 => ?_⟩
    refine ⟨_, rfl, _, _, _, _, _, rfl, .ty "list", tyL (s1.seq ha), kit_ty (r := true) (by decide +kernel), _, rfl, iteF ?_⟩
    refine ⟨_, rfl, a, rfl, ⟨_, s1.seq ha⟩, fun D hD => ?_⟩
    refine lc_list (xs := xs) (fun i H' => Same H H' ∧ H' D = some (.lst [])) ⟨s1.trans (same_upd hD), upd_same⟩ (fun i H' _ p => p.1.seq ha) ?_ ?_
    · rintro i x H2 hi ⟨s2, e2⟩
      obtain ⟨e, he, hxe⟩ := dpAll_at hx hi
      obtain ⟨z, hz, rfl⟩ := map_get he
      exact ⟨rfl, _, rfl, _, rfl, v, x, h, z, rfl, dp_mono s2 hv, hh, dp_mono s2 hxe, hw.1 z (List.mem_of_getElem? hz), fun H3 s3 => ⟨_, rfl, iteF ⟨s2.trans s3, s3 _ _ e2⟩⟩⟩
    · rintro H2 ⟨s2, e2⟩
      exact ⟨Nat.zero_le _, fun p2 hp2 => ⟨.list [], .list [], nil_dp (by rw [upd_ne (ne_of_none e2 hp2)]; exact e2), nil_dp upd_same, by decide, by decide, _, rfl, iteF (q _ (s2.trans (same_upd hp2)))⟩⟩
def sp_check_walk_number (K : PySem.W.Frag) : Sp := fun vs H Q _ => ∃ (u : V) (ws : List (List Nat)) (i : Nat), vs = [u, vN i] ∧ Dp K H u (walksD ws) ∧ i < ws.length ∧ Q .non H
theorem sc_check_walk_number : FnScope ["walks", "number"] ["walks", "number"] (defScope s_check_walk_number) := ⟨rfl, rfl, rfl, by decide +kernel, rfl, by decide +kernel, by decide +kernel⟩
theorem ok_check_walk_number (c : Cf K mg) (O_is_between : Ok P w K mg base 2 "is_between" ["value", "low", "high"] (sp_is_between K)) : Ok P w K mg base 3 "check_walk_number" ["walks", "number"] (sp_check_walk_number K) := by
  obtain ⟨fd, F⟩ := c.d.def_ 20 (d := d_check_walk_number) rfl
  refine ⟨c.g_check_walk_number, fd, ?_, FunD.bindsN F (fun _ _ _ _ _ _ us hl => match us, hl with | [_, _], _ => rfl), F.kp⟩
  refine okN F sc_check_walk_number (fun vs H Q E h => ?_) (fun cdv A outer s H vs Q E hr h => ?_)
  · obtain ⟨u, ws, i, rfl, _⟩ := h
    rfl
  · obtain ⟨u, ws, i, rfl, hu, hi, q⟩ := h
    refine ⟨_, (pss_one (ps_if (pt_not (pt_val (pe_c O_is_between hr (pa_cons (pv 1) (pa_cons pe_int (pa_cons (pe_op op_sub (pe_callB (call_lenK (K := K) rfl) (by rfl) c.n_len boot_len (pa_cons (pv 0) pa_nil)) pe_int) pa_nil)))))) (pss_one ps_never) pss_nil)), ?_⟩
    obtain ⟨a, xs, rfl, ha, hx⟩ := dp_list hu
    have hl : xs.length = ws.length := by rw [dpAll_len hx, List.length_map]
    exact ⟨_, rfl, _, rfl, a, _, rfl, .inl ha, _, _, rfl, rfl, i, _, _, rfl, .inr ⟨0, rfl, by omega⟩, .inr ⟨_, rfl, by omega⟩, _, rfl, iteF q⟩
def sp_goes_on (K : PySem.W.Frag) : Sp := fun vs H Q _ => ∃ (v : V) (h : Hs) (a b m : Nat), vs = [v, vN a, vN b, vN m] ∧ Dp K H v h.data ∧ HsOk h ∧
  ∀ H' (g : Bool), Same H H' → (g = true ↔ (a = b ∨ ∃ s ∈ h.steps, s.place = a ∧ s.goal = b ∧ inMask s.needs m)) → Q (.bl g) H'
theorem sc_goes_on : FnScope ["house", "place", "goal", "mask", "lights", "needs", "need"] ["house", "place", "goal", "mask"] (defScope s_goes_on) := ⟨rfl, rfl, rfl, by decide +kernel, rfl, by decide +kernel, by decide +kernel⟩
theorem ok_goes_on (c : Cf K mg) (O_needs_between : Ok P w K mg base 1 "needs_between" ["house", "place", "goal"] (sp_needs_between K)) (O_mask_of : Ok P w K mg base 1 "mask_of" ["lights"] (sp_mask_of K)) : Ok P w K mg base 2 "goes_on" ["house", "place", "goal", "mask"] (sp_goes_on K) := by
  obtain ⟨fd, F⟩ := c.d.def_ 19 (d := d_goes_on) rfl
  refine ⟨c.g_goes_on, fd, ?_, FunD.bindsN F (fun _ _ _ _ _ _ us hl => match us, hl with | [_, _, _, _], _ => rfl), F.kp⟩
  refine okN F sc_goes_on (fun vs H Q E h => ?_) (fun cdv A outer s H vs Q E hr h => ?_)
  · obtain ⟨v, h, a, b, m, rfl, _⟩ := h
    rfl
  · obtain ⟨v, h, a, b, m, rfl, hv, hh, q⟩ := h
    refine ⟨_, (pss_cons (ps_if (pt_cmpR op_eq (pv 1) (pv 2) (nomark _)) (pss_one (ps_ret pe_bl)) pss_nil)
      (pss_cons (ps_setLc (i := 5) (own := [("lights", 4)]) (g := gName 4) (tt := tYes) (by rfl) sc_goes_on.nd rfl rfl (sw_true rfl rfl rfl (by decide +kernel)) (pi_list (pe_c O_needs_between hr (pa_cons (pv 0) (pa_cons (pv 1) (pa_cons (pv 2) pa_nil))))) (blkOk_by (own := [("lights", 4)]) (N := ["house", "place", "goal", "mask", "lights", "needs", "need"]) (sc := defScope s_goes_on) (by decide +kernel)) (fun _ _ _ _ _ => (pg_name (i := 4) sc_goes_on.nd rfl (Or.inl rfl))) (fun _ _ _ _ _ => pts_nil) (fun _ _ _ _ _ => (pe_c O_mask_of hr (pa_cons (pv 4) pa_nil))))
      (pss_one (ps_ret (pe_cmpR (op_neDK (K := K) rfl hr.units) (pe_lc (own := [("need", 6)]) (g := gName 6) (by rfl) sc_goes_on.nd (pi_list (pv 5)) (blkOk_by (own := [("need", 6)]) (N := ["house", "place", "goal", "mask", "lights", "needs", "need"]) (sc := defScope s_goes_on) (by decide +kernel)) (fun _ _ _ _ _ => (pg_name (i := 6) sc_goes_on.nd rfl (Or.inl rfl))) (fun _ _ _ _ _ => (pts_one (pt_cmpR op_eq (pe_op op_and (pv 6) (pv 3)) (pv 6) (nomark _)))) (fun _ _ _ _ _ => (pv 6))) (pe_lst pa_nil) (nomark _)))))), ?_⟩
    refine ⟨_, rfl, _, rfl, rfl, _, rfl, ?_⟩
    by_cases hab : a = b
    · exact itP (decide_eq_true (by rw [hab])) (q _ true (Same.refl H) ⟨fun _ => .inl hab, fun _ => rfl⟩)
    refine itN (decide_eq_false fun e => hab (by have := V.int.inj e; omega)) ?_
    refine ⟨_, rfl, _, rfl, _, rfl, v, h, a, b, rfl, hv, hh, fun H1 v1 cs s1 hcs hm hl => ?_⟩
    obtain ⟨c0, xs, rfl, hc0, hx⟩ := dp_list hcs
    have hxl : xs.length = cs.length := by rw [dpAll_len hx, List.length_map]
    have hcsR : ∀ l ∈ cs, Lights h.rooms l := fun l hl' => by
      obtain ⟨s, hs, _, _, rfl⟩ := (hm l).mp hl'
      exact (hh.steps s hs).needs
    refine ⟨c0, rfl, ⟨_, hc0⟩, fun D hD => ?_⟩
    refine lc_list (xs := xs) (fun i H' => Same H1 H' ∧ H' D = some (.lst (((cs.take i).map maskOf).map vN))) ⟨same_upd hD, upd_same⟩ (fun i H' _ p => p.1.seq hc0) ?_ ?_
    · rintro i x H2 hi ⟨s2, e2⟩
      obtain ⟨e, he, hxe⟩ := dpAll_at hx hi
      obtain ⟨l, hll, rfl⟩ := map_get he
      have hR := hcsR l (List.mem_of_getElem? hll)
      have hil := (List.getElem?_eq_some_iff.mp hll).1
      refine ⟨rfl, _, rfl, x, l, rfl, dp_mono s2 hxe, hR.2.2, fun y hy => Nat.lt_of_lt_of_le (hR.2.1 y hy) hh.few, fun H3 s3 => ?_⟩
      refine ⟨_, s3 _ _ e2, by rw [List.length_map, List.length_map, List.length_take]; exact small100 (by omega), same_put (s2.trans s3) hD, ?_⟩
      rw [upd_same, take_snoc hll, List.map_append]
      rfl
    rintro H2 ⟨s2, e2⟩
    rw [hxl, take_all] at e2
    refine ⟨_, rfl, D, rfl, ⟨_, .inl (.inl e2)⟩, fun D2 hD2 => ?_⟩
    refine lc_list (xs := (cs.map maskOf).map vN) (fun i H' => Same H2 H' ∧ ∃ es : List Nat, H' D2 = some (.lst (es.map vN)) ∧ es.length ≤ i ∧ (es ≠ [] ↔ ∃ l ∈ cs.take i, inMask l m)) ⟨same_upd hD2, [], upd_same, Nat.le_refl _, by simp⟩ (fun i H' _ p => p.1.seq (.inl (.inl e2))) ?_ ?_
    · rintro i x H3 hi ⟨s3, es, e3, hel, hes⟩
      obtain ⟨y, hy, rfl⟩ := map_get hi
      obtain ⟨l, hll, rfl⟩ := map_get hy
      have hR := hcsR l (List.mem_of_getElem? hll)
      have hil := (List.getElem?_eq_some_iff.mp hll).1
      have e4 : (Builtin.bitAnd (maskOf l : Nat) (m : Nat) = ((maskOf l : Nat) : Int)) ↔ inMask l m := by
        rw [and_nat, ← and_eq_iff hR.1 m]
        omega
      refine ⟨rfl, _, rfl, _, rfl, _, _, rfl, rfl, _, rfl, rfl, _, rfl, ?_⟩
      by_cases h2 : inMask l m
      · refine itP (decide_eq_true (congrArg V.int (e4.mpr h2))) ⟨_, rfl, _, e3, by rw [List.length_map]; exact small100 (by omega), same_put s3 hD2, es ++ [maskOf l], by rw [upd_same, List.map_append]; rfl, by rw [List.length_append, List.length_singleton]; omega, ?_⟩
        rw [List.take_add_one, hll]
        exact ⟨fun _ => ⟨l, by simp, h2⟩, fun _ => by simp⟩
      · refine itN (decide_eq_false fun e => h2 (e4.mp (V.int.inj e))) ⟨s3, es, e3, by omega, ?_⟩
        rw [hes, List.take_add_one, hll]
        constructor
        · rintro ⟨l', h1, h3⟩
          exact ⟨l', by simp [h1], h3⟩
        · rintro ⟨l', h1, h3⟩
          rcases List.mem_append.mp h1 with h1 | h1
          · exact ⟨l', h1, h3⟩
          · have : l' = l := by simpa using h1
            exact absurd (this ▸ h3) h2
    · rintro H3 ⟨s3, es, e3, hel, hes⟩
      rw [List.length_map, List.length_map, List.take_length] at hes
      refine ⟨Nat.zero_le _, fun p2 hp2 => ⟨lN es, .list [], dp_lN_mk (.inl (.inl (by rw [upd_ne (ne_of_none e3 hp2)]; exact e3))), nil_dp upd_same, (tame_lN es).shaped (by decide), by decide, ?_⟩⟩
      refine q _ _ (s1.trans (s2.trans (s3.trans (same_upd hp2)))) ?_
      have e5 : PyData.eqv (lN es) (.list []) = es.isEmpty := by cases es <;> rfl
      rw [e5]
      have e6 : (!es.isEmpty) = true ↔ es ≠ [] := by cases es <;> simp
      rw [e6, hes]
      constructor
      · rintro ⟨l, h1, h2⟩
        obtain ⟨s, g1, g2, g3, rfl⟩ := (hm l).mp h1
        exact .inr ⟨s, g1, g2, g3, h2⟩
      · rintro (h1 | ⟨s, g1, g2, g3, g4⟩)
        · exact absurd h1 hab
        · exact ⟨s.needs, (hm _).mpr ⟨s, g1, g2, g3, rfl⟩, g4⟩
end
end K30

/-! #### G -/
namespace K30
open PySem PySem.Spec PyProof.Rows L2
/-- the masks are what the walks press -/
structure IsPressed (h : Hs) (ws : List (List Nat)) (ms : List Nat) : Prop where
  len : ms.length = ticks ws
  bit : ∀ t r, (ms.getD t 0).testBit r = true ↔ Prs h.plates ws t r
def LPress (plates : List (List Nat)) (ws : List (List Nat)) (w : List Nat) (j t r : Nat) : Prop := Prs plates ws t r ∨ (t < j ∧ ∃ p, w[t]? = some p ∧ r ∈ plates.getD p [])
theorem lpress_zero {plates ws w t r} : LPress plates ws w 0 t r ↔ Prs plates ws t r := by
  unfold LPress
  simp
theorem lpress_full {plates : List (List Nat)} {ws : List (List Nat)} {w : List Nat} {i t r : Nat} (e : ws[i]? = some w) : LPress plates (ws.take i) w w.length t r ↔ Prs plates (ws.take (i + 1)) t r := by
  unfold LPress Prs
  rw [List.take_add_one, e]
  constructor
  · rintro (⟨w', h1, h2⟩ | ⟨h1, p, h2, h3⟩)
    · exact ⟨w', List.mem_append_left _ h1, h2⟩
    · exact ⟨w, by simp, p, h2, h3⟩
  · rintro ⟨w', h1, p, h2, h3⟩
    rcases List.mem_append.mp h1 with h1 | h1
    · exact .inl ⟨w', h1, p, h2, h3⟩
    · have : w' = w := by simpa using h1
      subst this
      exact .inr ⟨(List.getElem?_eq_some_iff.mp h2).1, p, h2, h3⟩
theorem lpress_succ {plates : List (List Nat)} {ws : List (List Nat)} {w : List Nat} {j t r p : Nat} (e : w[j]? = some p) : LPress plates ws w (j + 1) t r ↔ LPress plates ws w j t r ∨ (t = j ∧ r ∈ plates.getD p []) := by
  unfold LPress
  constructor
  · rintro (h | ⟨h1, p', h2, h3⟩)
    · exact .inl (.inl h)
    · by_cases q : t < j
      · exact .inl (.inr ⟨q, p', h2, h3⟩)
      · have : t = j := by omega
        subst this
        rw [e] at h2
        cases h2
        exact .inr ⟨rfl, h3⟩
  · rintro ((h | ⟨h1, h2⟩) | ⟨rfl, h⟩)
    · exact .inl h
    · exact .inr ⟨by omega, h2⟩
    · exact .inr ⟨by omega, p, e, h⟩
theorem max_ticks {ws : List (List Nat)} {m : Int} (h1 : m ∈ (0 : Int) :: ws.map fun w => (w.length : Int)) (h2 : ∀ y ∈ (0 : Int) :: ws.map (fun w => (w.length : Int)), y ≤ m) : m = (ticks ws : Nat) := by
  have hle : m ≤ (ticks ws : Nat) := by
    rcases List.mem_cons.mp h1 with rfl | h1
    · omega
    · obtain ⟨w, hw, rfl⟩ := List.mem_map.mp h1
      have := le_ticks hw
      omega
  have hge : ((ticks ws : Nat) : Int) ≤ m := by
    have h0 := h2 0 (List.mem_cons_self ..)
    have : ticks ws ≤ m.toNat := ticks_le fun w hw => by
      have := h2 w.length (List.mem_cons_of_mem _ (List.mem_map.mpr ⟨w, hw, rfl⟩))
      omega
    omega
  omega
theorem rep_zero (n : Nat) : (List.replicate ((n : Nat) : Int).toNat [V.int 0]).flatten = (List.replicate n 0).map vN := by
  rw [Int.toNat_natCast]
  induction n with
  | zero => rfl
  | succ n ih =>
    rw [List.replicate_succ, List.flatten_cons, ih, List.replicate_succ, List.map_cons]
    rfl
theorem getD_set {L : List Nat} {j t x : Nat} (h : j < L.length) : (L.set j x).getD t 0 = if t = j then x else L.getD t 0 := by
  rw [List.getD_eq_getElem?_getD, List.getD_eq_getElem?_getD, List.getElem?_set]
  by_cases e : j = t
  · subst e
    simp [h]
  · have e' : ¬ t = j := fun z => e z.symm
    simp [e, e']
theorem ixN_nat {n j : Nat} (h : j < n) : ixN n ((j : Nat) : Int) = some j := by
  unfold ixN
  rw [if_pos (by omega), if_pos (by omega), Int.toNat_natCast]
section
variable {P : Program} {w : World} {K : PySem.W.Frag} {mg : Str → Option Value} {base : Heap}
def sp_pressed_masks (K : PySem.W.Frag) : Sp := fun vs H Q _ => ∃ (v u : V) (h : Hs) (ws : List (List Nat)), vs = [v, u] ∧ Dp K H v h.data ∧ HsOk h ∧ Dp K H u (walksD ws) ∧ WalksOk h ws ∧ ∀ H' v' ms, Same H H' → Dp K H' v' (lN ms) → IsPressed h ws ms → Q v' H'
theorem sc_pressed_masks : FnScope ["house", "walks", "lights", "walk", "plates", "found", "tick", "place"] ["house", "walks"] (defScope s_pressed_masks) := ⟨rfl, rfl, rfl, by decide +kernel, rfl, by decide +kernel, by decide +kernel⟩
theorem ok_pressed_masks (c : Cf K mg) (O_mask_of : Ok P w K mg base 1 "mask_of" ["lights"] (sp_mask_of K)) : Ok P w K mg base 2 "pressed_masks" ["house", "walks"] (sp_pressed_masks K) := by
  obtain ⟨fd, F⟩ := c.d.def_ 18 (d := d_pressed_masks) rfl
  refine ⟨c.g_pressed_masks, fd, ?_, FunD.bindsN F (fun _ _ _ _ _ _ us hl => match us, hl with | [_, _], _ => rfl), F.kp⟩
  refine okN F sc_pressed_masks (fun vs H Q E h => ?_) (fun cdv A outer s H vs Q E hr h => ?_)
  · obtain ⟨v, u, h, z, rfl, _⟩ := h
    rfl
  · obtain ⟨v, u, h, ws, rfl, hv, hh, hu, hw, q⟩ := h
    refine ⟨_, (pss_cons (ps_par (i := 4) (j := 5) (by rfl) sc_pressed_masks.nd rfl rfl (by decide) rfl rfl (pa_cons (pe_lc (own := [("lights", 2)]) (g := gName 2) (tt := tYes) (by rfl) sc_pressed_masks.nd (pi_list (pe_ix (ix_tupK (K := K) rfl) (pv 0) pe_int (fun _ _ => rfl))) (blkOk_by (own := [("lights", 2)]) (N := ["house", "walks", "lights", "walk", "plates", "found", "tick", "place"]) (sc := defScope s_pressed_masks) (by decide +kernel)) (fun _ _ _ _ _ => (pg_name (i := 2) sc_pressed_masks.nd rfl (Or.inl rfl))) (fun _ _ _ _ _ => pts_nil) (fun _ _ _ _ _ => (pe_c O_mask_of hr (pa_cons (pv 2) pa_nil)))) (pa_cons (pe_op op_rep (pe_lst (pa_cons pe_int pa_nil)) (pe_callB (cr_max rfl) (by rfl) c.n_max (by decide +kernel) (pa_cons (pe_op op_cat (pe_lst (pa_cons pe_int pa_nil)) (pe_lc (own := [("walk", 3)]) (g := gName 3) (tt := tYes) (by rfl) sc_pressed_masks.nd (pi_list (pv 1)) (blkOk_by (own := [("walk", 3)]) (N := ["house", "walks", "lights", "walk", "plates", "found", "tick", "place"]) (sc := defScope s_pressed_masks) (by decide +kernel)) (fun _ _ _ _ _ => (pg_name (i := 3) sc_pressed_masks.nd rfl (Or.inl rfl))) (fun _ _ _ _ _ => pts_nil) (fun _ _ _ _ _ => (pe_callB (call_lenK (K := K) rfl) (by rfl) c.n_len boot_len (pa_cons (pv 3) pa_nil))))) pa_nil))) pa_nil)) (by rfl))
      (pss_cons (ps_for PassesOwn.never rfl (pi_list (pv 1)) (pg_name (i := 3) sc_pressed_masks.nd rfl (Or.inl rfl)) (pss_one (ps_for PassesOwn.never rfl (pi_enum (by rfl) c.n_enumerate (pa_cons (pv 3) pa_nil)) (pg_tupK (K := K) (n := 2) rfl rfl (pgs_cons (pg_name (i := 6) sc_pressed_masks.nd rfl (Or.inl rfl)) (pgs_cons (pg_name (i := 7) sc_pressed_masks.nd rfl (Or.inl rfl)) pgs_nil))) (pss_one (ps_asg (pe_op op_or (pe_ix (ix_listK (K := K) rfl) (pv 5) (pv 6) (fun _ _ => rfl)) (pe_ix (ix_listK (K := K) rfl) (pv 4) (pv 7) (fun _ _ => rfl))) (pg_sub (pv 5) (pv 6) set_list))))))
      (pss_one (ps_ret (pv 5))))), ?_⟩
    obtain ⟨p, lv, ap, ps, bp, ss, rfl, hp, hlv, hap, hpa, hbp, hsb⟩ := dp_house hv
    obtain ⟨a, xs, rfl, ha, hx⟩ := dp_list hu
    have hpl : ps.length = h.plates.length := by rw [dpAll_len hpa, List.length_map]
    have hxl : xs.length = ws.length := by rw [dpAll_len hx, List.length_map]
    have hpf := hh.pfew
    have hwf := hw.2
    -- plates
    refine ⟨_, rfl, p, _, _, _, rfl, rfl, hp, rfl, ap, rfl, ⟨_, hap⟩, fun D hD => ?_⟩
    refine lc_list (xs := ps) (fun i H' => Same H H' ∧ H' D = some (.lst (((h.plates.take i).map maskOf).map vN))) ⟨same_upd hD, upd_same⟩ (fun i H' _ p => p.1.seq hap) ?_ ?_
    · rintro i x H2 hi ⟨s2, e2⟩
      obtain ⟨e, he, hxe⟩ := dpAll_at hpa hi
      obtain ⟨l, hll, rfl⟩ := map_get he
      have hR := hh.plates l (List.mem_of_getElem? hll)
      have hil := (List.getElem?_eq_some_iff.mp hll).1
      refine ⟨rfl, _, rfl, x, l, rfl, dp_mono s2 hxe, hR.2.2, fun y hy => Nat.lt_of_lt_of_le (hR.2.1 y hy) hh.few, fun H3 s3 => ?_⟩
      refine ⟨_, s3 _ _ e2, by rw [List.length_map, List.length_map, List.length_take]; exact small100 (by omega), same_put (s2.trans s3) hD, ?_⟩
      rw [upd_same, take_snoc hll, List.map_append]
      rfl
    rintro H2 ⟨s2, e2⟩
    rw [hpl, take_all] at e2
    -- [0] * max([0] + [len(walk) for walk in walks])
    refine ⟨by decide, fun z0 hz0 => ⟨by decide, fun z1 hz1 => ?_⟩⟩
    have s3 : Same H2 (upd (upd H2 z0 (.lst [V.int 0])) z1 (.lst [V.int 0])) := (same_upd hz0).trans (same_upd hz1)
    have ez0 : (upd (upd H2 z0 (.lst [V.int 0])) z1 (.lst [V.int 0])) z0 = some (.lst [V.int 0]) := by rw [upd_ne (ne_of_none upd_same hz1)]; exact upd_same
    have ez1 : (upd (upd H2 z0 (.lst [V.int 0])) z1 (.lst [V.int 0])) z1 = some (.lst [V.int 0]) := upd_same
    generalize upd (upd H2 z0 (.lst [V.int 0])) z1 (.lst [V.int 0]) = H3 at s3 ez0 ez1 ⊢
    have sa3 := (s2.trans s3).seq ha
    refine ⟨_, rfl, a, rfl, ⟨_, sa3⟩, fun D2 hD2 => ?_⟩
    refine lc_list (xs := xs) (fun i H' => Same H3 H' ∧ H' D2 = some (.lst (((ws.take i).map fun w => (w.length : Int)).map V.int))) ⟨same_upd hD2, upd_same⟩ (fun i H' _ p => p.1.seq sa3) ?_ ?_
    · rintro i x H4 hi ⟨s4, e4⟩
      obtain ⟨e, he, hxe⟩ := dpAll_at hx hi
      obtain ⟨z, hz, rfl⟩ := map_get he
      obtain ⟨n, rfl, hn⟩ := dp_lN hxe
      have hil := (List.getElem?_eq_some_iff.mp hz).1
      refine ⟨rfl, _, rfl, n, _, rfl, .inl ((s2.trans (s3.trans s4)).seq hn), _, e4, by rw [List.length_map, List.length_map, List.length_take]; exact small100 (by omega), same_put s4 hD2, ?_⟩
      rw [upd_same, take_snoc hz, List.map_append, List.length_map]
      rfl
    rintro H4 ⟨s4, e4⟩
    rw [hxl, take_all] at e4
    refine ⟨z1, D2, _, _, rfl, rfl, s4 _ _ ez1, e4, by rw [List.length_singleton, List.length_map, List.length_map]; exact le1000 (by omega), fun z2 hz2 => ?_⟩
    refine ⟨z2, (0 : Int) :: ws.map (fun w => (w.length : Int)), rfl, .inl (.inl upd_same), by rw [List.length_cons]; omega, fun m hm1 hm2 => ?_⟩
    have hmt := max_ticks hm1 hm2
    subst hmt
    have htl : ticks ws ≤ 100 := ticks_le fun w hw' => (hw.1 w hw').few
    refine ⟨z0, _, _, rfl, rfl, by rw [upd_ne (ne_of_none (s4 _ _ ez0) hz2)]; exact s4 _ _ ez0, ge62' (by omega), li63 (by omega), by rw [List.length_singleton, Int.toNat_natCast]; exact le1000 (by omega), fun F hF => ?_⟩
    refine ⟨_, _, rfl, ?_⟩
    rw [rep_zero]
    have s5 : Same H2 (upd (upd H4 z2 (.lst ([V.int 0] ++ (ws.map fun w => (w.length : Int)).map V.int))) F (.lst ((List.replicate (ticks ws) 0).map vN))) := s3.trans (s4.trans ((same_upd hz2).trans (same_upd hF)))
    have hF2 : H2 F = none := by
      have h1 : H4 F = none := by
        have : F ≠ z2 := fun e => by rw [e, upd_same] at hF; cases hF
        rw [upd_ne this] at hF
        exact hF
      exact (s3.trans s4).free h1
    have eF : (upd (upd H4 z2 (.lst ([V.int 0] ++ (ws.map fun w => (w.length : Int)).map V.int))) F (.lst ((List.replicate (ticks ws) 0).map vN))) F = some (.lst ((List.replicate (ticks ws) 0).map vN)) := upd_same
    generalize (upd (upd H4 z2 (.lst ([V.int 0] ++ (ws.map fun w => (w.length : Int)).map V.int))) F (.lst ((List.replicate (ticks ws) 0).map vN))) = H5 at s5 eF ⊢
    have nFD : F ≠ D := fun e => by rw [e, e2] at hF2; cases hF2
    have sa5 := (s2.trans s5).seq ha
    refine ⟨_, rfl, a, rfl, ⟨_, sa5⟩, for_list (xs := xs) (fun i σ H' => Same H2 H' ∧ ∃ (o3 o6 o7 : Option V) (ms : List Nat), σ = [some (.ref p), some (.ref a), none, o3, some (.ref D), some (.ref F), o6, o7] ∧ H' F = some (.lst (ms.map vN)) ∧ ms.length = ticks ws ∧
      ∀ t r, (ms.getD t 0).testBit r = true ↔ Prs h.plates (ws.take i) t r) ⟨s5, none, none, none, _, rfl, eF, by rw [List.length_replicate], fun t r => ?_⟩ (fun i σ H' _ p => (s2.trans p.1).seq ha) ?_ ?_⟩
    · have e0 : (List.replicate (ticks ws) 0).getD t 0 = 0 := by
        rw [List.getD_eq_getElem?_getD, List.getElem?_replicate]
        split <;> rfl
      rw [e0]
      simp [Prs]
    · rintro i x σ H6 hi ⟨s6, o3, o6, o7, ms, rfl, e6, hml, hbit⟩
      obtain ⟨e, he, hxe⟩ := dpAll_at hx hi
      obtain ⟨z, hz, rfl⟩ := map_get he
      obtain ⟨n, rfl, hn⟩ := dp_lN hxe
      have hzw := hw.1 z (List.mem_of_getElem? hz)
      have hzt := le_ticks (List.mem_of_getElem? hz)
      refine ⟨_, rfl, n, _, rfl, (s2.trans s6).seq hn, for_it (walk_enum (xs := z.map vN)) (fun j σ H' => Same H2 H' ∧ ∃ (o6 o7 : Option V) (ms : List Nat), σ = [some (.ref p), some (.ref a), none, some (.ref n), some (.ref D), some (.ref F), o6, o7] ∧ H' F = some (.lst (ms.map vN)) ∧ ms.length = ticks ws ∧
        ∀ t r, (ms.getD t 0).testBit r = true ↔ LPress h.plates (ws.take i) z j t r) ⟨s6, o6, o7, ms, rfl, e6, hml, fun t r => (hbit t r).trans lpress_zero.symm⟩ (fun j σ H' _ p => (s2.trans p.1).seq hn) ?_ ?_⟩
      · rintro j x σ H7 H8 hj ⟨s7, o6, o7, ms, rfl, e7, hml, hbit⟩ ⟨T, x1, x2, rfl, hT, rfl, f1, f2⟩
        cases f1
        obtain ⟨pl, hpl', rfl⟩ := map_get f2
        have hjl := (List.getElem?_eq_some_iff.mp hpl').1
        have hplt := hzw.places pl (List.mem_of_getElem? hpl')
        have nT : T ≠ F := fun z => by rw [z, e7] at hT; cases hT
        have s8 : Same H2 (upd H7 T (.tup [.int (j : Nat), vN pl])) := s7.trans (same_upd hT)
        have e8 : (upd H7 T (.tup [.int (j : Nat), vN pl])) F = some (.lst (ms.map vN)) := by rw [upd_ne nT.symm]; exact e7
        have eD := s8 _ _ e2
        have hjm : j < ms.length := by omega
        have g1 : (ms.map vN)[j]? = some (vN (ms.getD j 0)) := get_walk hjm
        have g2 : ((h.plates.map maskOf).map vN)[pl]? = some (vN (maskOf (h.plates.getD pl []))) := by
          rw [List.getElem?_map, List.getElem?_map, List.getD_eq_getElem?_getD, List.getElem?_eq_getElem hplt]
          rfl
        refine ⟨T, _, rfl, .inl (.inl upd_same), rfl, _, _, rfl, _, _, rfl, rfl, ?_⟩
        generalize upd H7 T (.tup [.int (j : Nat), vN pl]) = H9 at s8 e8 eD ⊢
        refine ⟨_, rfl, _, rfl, F, _, _, _, rfl, rfl, .inl (.inl e8), ixn rfl g1, _, rfl, _, rfl, D, _, _, _, rfl, rfl, .inl (.inl eD), ixn rfl g2, _, _, rfl, rfl, ?_⟩
        refine ⟨_, rfl, _, rfl, F, _, _, j, rfl, rfl, e8, ixN_nat (by rw [List.length_map]; exact hjm), ?_⟩
        refine ⟨same_put s8 hF2, some (vN j), some (vN pl), ms.set j (ms.getD j 0 ||| maskOf (h.plates.getD pl [])), rfl, ?_, by rw [List.length_set]; exact hml, fun t r => ?_⟩
        · rw [upd_same, List.map_set]
          show some (HO.lst (List.set _ _ (V.int (Builtin.bitOr _ _)))) = _
          rw [or_nat]
        · rw [getD_set hjm, lpress_succ hpl', ← hbit t r]
          by_cases e : t = j
          · subst e
            rw [if_pos rfl, Nat.testBit_or, Bool.or_eq_true]
            have hR : Lights h.rooms (h.plates.getD pl []) := by
              rw [List.getD_eq_getElem?_getD, List.getElem?_eq_getElem hplt]
              exact hh.plates _ (List.getElem_mem hplt)
            rw [testBit_maskOf hR.1 r, decide_eq_true_eq]
            simp
          · rw [if_neg e]
            simp [e]
      · rintro σ H7 ⟨s7, o6, o7, ms, rfl, e7, hml, hbit⟩
        refine ⟨s7, some (.ref n), o6, o7, ms, rfl, e7, hml, fun t r => ?_⟩
        rw [hbit t r, List.length_map, lpress_full hz]
    · rintro σ H6 ⟨s6, o3, o6, o7, ms, rfl, e6, hml, hbit⟩
      refine ⟨_, rfl, q _ _ ms (s2.trans s6) (dp_lN_mk (.inl (.inl e6))) ⟨hml, fun t r => ?_⟩⟩
      rw [hbit t r, hxl, List.take_length]
end
end K30

/-! #### H -/
namespace K30
open PySem PySem.Spec PyProof.Rows L2
def optV : Option Nat → V
  | some m => vN m
  | none => .non
theorem HsOk.drs {h : Hs} (k : HsOk h) : DrsOk h.doors h.rooms := ⟨fun d hd => (k.doors d hd).needs.1, fun d hd => (k.doors d hd).room, k.few, fun d hd => (k.doors d hd).shift⟩
theorem prs_room {h : Hs} (k : HsOk h) {ws : List (List Nat)} (hw : WalksOk h ws) {t r : Nat} (q : Prs h.plates ws t r) : r < h.rooms := by
  obtain ⟨w, h1, p, h2, h3⟩ := q
  have hp := (hw.1 w h1).places p (List.mem_of_getElem? h2)
  rw [List.getD_eq_getElem?_getD, List.getElem?_eq_getElem hp] at h3
  exact (k.plates _ (List.getElem_mem hp)).2.1 r h3
theorem IsPressed.lt {h : Hs} (k : HsOk h) {ws : List (List Nat)} (hw : WalksOk h ws) {ms : List Nat} (q : IsPressed h ws ms) : ∀ x ∈ ms, x < 2 ^ h.rooms := fun x hx => by
  obtain ⟨i, hi, rfl⟩ := List.mem_iff_getElem.mp hx
  refine lt_of_bits fun r hr => prs_room k hw ((q.bit i r).mp ?_)
  rw [List.getD_eq_getElem?_getD, List.getElem?_eq_getElem hi]
  exact hr
/-- what the light of the first m ticks opens -/
theorem opens_of {h : Hs} {ws : List (List Nat)} {ms L : List Nat} {m a b t : Nat} (q : IsPressed h ws ms) (hm : m ≤ ms.length) (I : IsLight h.doors (ms.take m) L) :
    (∃ s ∈ h.steps, s.place = a ∧ s.goal = b ∧ inMask s.needs (L.getD t 0)) ↔ Opens h.doors (Prs h.plates ws) h.steps a b t m := by
  have hl : (ms.take m).length = m := by rw [List.length_take]; omega
  have hb : ∀ r, (L.getD t 0).testBit r = true ↔ Lit h.doors (Prs h.plates ws) m t r := fun r => by
    rw [I.bit t r, hl]
    refine Lit.congr fun t r ht => ?_
    rw [← q.bit t r]
    show ((ms.take m).getD t 0).testBit r = true ↔ _
    rw [List.getD_eq_getElem?_getD, List.getD_eq_getElem?_getD, List.getElem?_take_of_lt ht]
  unfold Opens inMask
  simp only [hb]
theorem IsLight.at {ds : List Dr} {ms L : List Nat} (I : IsLight ds ms L) : L.length = ms.length := I.len
section
variable {P : Program} {w : World} {K : PySem.W.Frag} {mg : Str → Option Value} {base : Heap}
def sp_opened_in (K : PySem.W.Frag) : Sp := fun vs H Q _ => ∃ (v u x : V) (h : Hs) (ws : List (List Nat)) (ms z : List Nat) (t : Nat), vs = [v, u, x, vN t] ∧ Dp K H v h.data ∧ HsOk h ∧ WalksOk h ws ∧ Dp K H u (lN ms) ∧ IsPressed h ws ms ∧ Dp K H x (lN z) ∧ z ∈ ws ∧ t + 1 < z.length ∧
  ∀ H', Same H H' → Q (optV (h.opened ws z t)) H'
theorem sc_opened_in : FnScope ["house", "masks", "walk", "tick", "doors", "many"] ["house", "masks", "walk", "tick"] (defScope s_opened_in) := ⟨rfl, rfl, rfl, by decide +kernel, rfl, by decide +kernel, by decide +kernel⟩
theorem ok_opened_in (c : Cf K mg) (O_masked_doors : Ok P w K mg base 2 "masked_doors" ["level"] (sp_masked_doors K)) (O_goes_on : Ok P w K mg base 2 "goes_on" ["house", "place", "goal", "mask"] (sp_goes_on K)) (O_light_of : Ok P w K mg base 3 "light_of" ["doors", "masks"] (sp_light_of K)) : Ok P w K mg base 4 "opened_in" ["house", "masks", "walk", "tick"] (sp_opened_in K) := by
  obtain ⟨fd, F⟩ := c.d.def_ 21 (d := d_opened_in) rfl
  refine ⟨c.g_opened_in, fd, ?_, FunD.bindsN F (fun _ _ _ _ _ _ us hl => match us, hl with | [_, _, _, _], _ => rfl), F.kp⟩
  refine okN F sc_opened_in (fun vs H Q E h => ?_) (fun cdv A outer s H vs Q E hr h => ?_)
  · obtain ⟨v, u, x, h, ws, ms, z, t, rfl, _⟩ := h
    rfl
  · obtain ⟨v, u, x, h, ws, ms, z, t, rfl, hv, hh, hw, hu, hP, hx, hz, ht, q⟩ := h
    refine ⟨_, (pss_cons (ps_if (pt_cmpR op_eq (pe_ix (ix_listK (K := K) rfl) (pv 2) (pv 3) (fun _ _ => rfl)) (pe_ix (ix_listK (K := K) rfl) (pv 2) (pe_op op_add (pv 3) pe_int) (fun _ _ => rfl)) (nomark _)) (pss_one (ps_ret pe_int)) pss_nil)
      (pss_cons (ps_set (i := 4) sc_opened_in.nd rfl (Or.inl rfl) (pe_c O_masked_doors hr (pa_cons (pe_ix (ix_tupK (K := K) rfl) (pv 0) pe_int (fun _ _ => rfl)) pa_nil)))
      (pss_cons (ps_for PassesOwn.never rfl (pi_range2 (by rfl) c.n_range (pa_cons (pe_op op_add (pv 3) pe_int) (pa_cons (pe_op op_add (pe_callB (call_lenK (K := K) rfl) (by rfl) c.n_len boot_len (pa_cons (pv 1) pa_nil)) pe_int) pa_nil))) (pg_name (i := 5) sc_opened_in.nd rfl (Or.inl rfl)) (pss_one (ps_if (pt_val (pe_c O_goes_on hr (pa_cons (pv 0) (pa_cons (pe_ix (ix_listK (K := K) rfl) (pv 2) (pv 3) (fun _ _ => rfl)) (pa_cons (pe_ix (ix_listK (K := K) rfl) (pv 2) (pe_op op_add (pv 3) pe_int) (fun _ _ => rfl)) (pa_cons (pe_ix (ix_listK (K := K) rfl) (pe_c O_light_of hr (pa_cons (pv 4) (pa_cons (pe_slice (sl_listK (K := K) rfl) (pv 1) po_none (po_some (pv 5))) pa_nil))) (pv 3) (fun _ _ => rfl)) pa_nil)))))) (pss_one (ps_ret (pv 5))) pss_nil)))
      (pss_one (ps_ret pe_non))))), ?_⟩
    obtain ⟨p, lv, ap, ps, bp, ss, rfl, hp, hlv, hap, hpa, hbp, hsb⟩ := dp_house hv
    obtain ⟨a, rfl, ha⟩ := dp_lN hu
    obtain ⟨b, rfl, hb⟩ := dp_lN hx
    have hzt := le_ticks hz
    have hzl := (hw.1 z hz).few
    have htl : ticks ws ≤ 100 := ticks_le fun w hw' => (hw.1 w hw').few
    have hml := hP.len
    have g1 : (z.map vN)[t]? = some (vN (z.getD t 0)) := get_walk (by omega)
    have g2 : (z.map vN)[t + 1]? = some (vN (z.getD (t + 1) 0)) := get_walk ht
    refine ⟨_, rfl, _, rfl, b, _, _, _, rfl, rfl, hb, ixn rfl g1, _, rfl, _, rfl, _, _, rfl, rfl, b, _, _, _, rfl, rfl, hb, ixn (by omega) g2, rfl, _, rfl, ?_⟩
    have eop : h.opened ws z t = K30.opened h.doors (Prs h.plates ws) h.steps (ticks ws) (z.getD t 0) (z.getD (t + 1) 0) t := rfl
    by_cases hab : z.getD t 0 = z.getD (t + 1) 0
    · refine itP (decide_eq_true (by rw [hab])) ?_
      have e : h.opened ws z t = some 0 := by rw [eop, hab]; exact opened_stay
      have := q H (Same.refl H)
      rw [e] at this
      exact this
    refine itN (decide_eq_false fun e => hab (by have := V.int.inj e; omega)) ?_
    refine ⟨_, rfl, p, _, _, _, rfl, rfl, hp, rfl, lv, h.rooms, h.doors, rfl, hlv, hh.doors, hh.few, hh.dfew, fun H1 dv s1 hdv => ?_⟩
    refine ⟨_, rfl, _, _, rfl, rfl, _, rfl, a, _, rfl, .inl (s1.seq ha), _, _, rfl, rfl, _, _, rfl, ⟨ge62 (by omega), li62 (by omega), ge62 (by omega), li62 (by rw [List.length_map]; omega)⟩, ?_⟩
    refine for_range (fun i σ H' => Same H1 H' ∧ (∀ m, t < m → m ≤ t + i → ¬ Opens h.doors (Prs h.plates ws) h.steps (z.getD t 0) (z.getD (t + 1) 0) t m) ∧ ∃ o, σ = [some (.ref p), some (.ref a), some (.ref b), some (vN t), some dv, o]) ⟨Same.refl _, fun m h1 h2 => by omega, none, rfl⟩ ?_ ?_
    · rintro i σ H2 hi ⟨s2, hno, o, rfl⟩
      rw [List.length_map] at hi
      have hi' : t + 1 + i ≤ ms.length := by omega
      have sa := s1.trans s2
      refine ⟨_, rfl, _, rfl, _, rfl, b, _, _, _, rfl, rfl, sa.seq hb, ixn rfl g1, _, rfl, _, rfl, _, _, rfl, rfl, b, _, _, _, rfl, rfl, sa.seq hb, ixn (by omega) g2, ?_⟩
      refine ⟨_, rfl, _, rfl, _, rfl, _, rfl, a, _, rfl, sa.seq ha, fun c hc => ?_⟩
      have ecut : cutV (ms.map vN) none (some ((t : Int) + 1 + (i : Int))) = (ms.take (t + 1 + i)).map vN := by
        rw [show (t : Int) + 1 + (i : Int) = ((t + 1 + i : Nat) : Int) by omega, cut_head _ _ (by rw [List.length_map]; exact hi'), List.map_take]
      rw [ecut]
      have s3 : Same H2 (upd H2 c (.lst ((ms.take (t + 1 + i)).map vN))) := same_upd hc
      refine ⟨dv, .ref c, h.doors, ms.take (t + 1 + i), h.rooms, rfl, dp_mono (s2.trans s3) hdv, dp_lN_mk (.inl (.inl upd_same)), hh.drs, fun x hx => hP.lt hh hw x (List.mem_of_mem_take hx), ?_, by rw [List.length_take]; omega, fun H3 lv' L s4 hL I => ?_⟩
      · intro e
        have := congrArg List.length e
        rw [List.length_take, List.length_nil] at this
        omega
      obtain ⟨la, rfl, hla⟩ := dp_lN hL
      have hLl : L.length = t + 1 + i := by rw [I.len, List.length_take]; omega
      have g3 : (L.map vN)[t]? = some (vN (L.getD t 0)) := get_walk (by omega)
      refine ⟨_, rfl, la, _, _, _, rfl, rfl, hla, ixn rfl g3, .ref p, h, z.getD t 0, z.getD (t + 1) 0, L.getD t 0, rfl, dp_mono (sa.trans (s3.trans s4)) hv, hh, fun H4 g s5 hg => ?_⟩
      have s6 := s2.trans (s3.trans (s4.trans s5))
      rw [opens_of hP hi' I] at hg
      refine ⟨_, rfl, ?_⟩
      cases g with
      | true =>
        have ho : Opens h.doors (Prs h.plates ws) h.steps (z.getD t 0) (z.getD (t + 1) 0) t (t + 1 + i) := by
          rcases hg.mp rfl with e | e
          · exact absurd e hab
          · exact e
        refine iteT ⟨_, rfl, ?_⟩
        have e : h.opened ws z t = some (t + 1 + i) := by
          rw [eop]
          exact opened_some hab (by omega) (by omega) ho fun k h1 h2 => hno k h1 (by omega)
        have := q H4 (s1.trans s6)
        rw [e] at this
        exact this
      | false =>
        refine iteF ⟨s6, fun m h1 h2 => ?_, _, rfl⟩
        by_cases hm : m ≤ t + i
        · exact hno m h1 hm
        · have em : m = t + 1 + i := by omega
          rw [em]
          exact fun z => by
            have := hg.mpr (.inr z)
            cases this
    · rintro σ H2 ⟨s2, hno, o, rfl⟩
      have e : h.opened ws z t = none := by
        rw [eop]
        refine opened_none hab fun m h1 h2 => hno m h1 ?_
        rw [List.length_map]
        omega
      have := q H2 (s1.trans s2)
      rw [e] at this
      exact this
def sp_opened_by (K : PySem.W.Frag) : Sp := fun vs H Q _ => ∃ (v u : V) (h : Hs) (ws : List (List Nat)) (z : List Nat) (i t : Nat), vs = [v, u, vN i, vN t] ∧ Dp K H v h.data ∧ HsOk h ∧ Dp K H u (walksD ws) ∧ WalksOk h ws ∧ ws[i]? = some z ∧ t + 1 < z.length ∧
  ∀ H', Same H H' → Q (optV (h.opened ws z t)) H'
theorem sc_opened_by : FnScope ["house", "walks", "number", "tick"] ["house", "walks", "number", "tick"] (defScope s_opened_by) := ⟨rfl, rfl, rfl, by decide +kernel, rfl, by decide +kernel, by decide +kernel⟩
theorem okF_opened_by (c : Cf K mg) (O_check_walks : Ok P w K mg base 9 "check_walks" ["house", "walks"] (sp_check_walks K)) (O_check_walk_number : Ok P w K mg base 3 "check_walk_number" ["walks", "number"] (sp_check_walk_number K)) (O_is_between : Ok P w K mg base 2 "is_between" ["value", "low", "high"] (sp_is_between K)) (O_opened_in : Ok P w K mg base 4 "opened_in" ["house", "masks", "walk", "tick"] (sp_opened_in K)) (O_pressed_masks : Ok P w K mg base 2 "pressed_masks" ["house", "walks"] (sp_pressed_masks K)) : ∃ fd, FnOk P w K mg base CX0 10 (He.ga K "opened_by") fd ["house", "walks", "number", "tick"] (sp_opened_by K) ∧ FunD K d_opened_by.name d_opened_by.qual d_opened_by.params d_opened_by.body d_opened_by.scope (He.DefD.dvs K d_opened_by) (He.DefD.kws K d_opened_by) (He.fAd K d_opened_by.at_) fd := by
  obtain ⟨fd, F⟩ := c.d.def_ 22 (d := d_opened_by) rfl
  refine ⟨fd, ?_, F⟩
  refine okN F sc_opened_by (fun vs H Q E h => ?_) (fun cdv A outer s H vs Q E hr h => ?_)
  · obtain ⟨v, u, h, ws, z, i, t, rfl, _⟩ := h
    rfl
  · obtain ⟨v, u, h, ws, z, i, t, rfl, hv, hh, hu, hw, hz, ht, q⟩ := h
    refine ⟨_, (pss_cons (ps_expr (pe_c O_check_walks hr (pa_cons (pv 0) (pa_cons (pv 1) pa_nil))))
      (pss_cons (ps_expr (pe_c O_check_walk_number hr (pa_cons (pv 1) (pa_cons (pv 2) pa_nil))))
      (pss_cons (ps_if (pt_not (pt_val (pe_c O_is_between hr (pa_cons (pv 3) (pa_cons pe_int (pa_cons (pe_op op_sub (pe_callB (call_lenK (K := K) rfl) (by rfl) c.n_len boot_len (pa_cons (pe_ix (ix_listK (K := K) rfl) (pv 1) (pv 2) (fun _ _ => rfl)) pa_nil)) pe_int) pa_nil)))))) (pss_one ps_never) pss_nil)
      (pss_one (ps_ret (pe_c O_opened_in hr (pa_cons (pv 0) (pa_cons (pe_c O_pressed_masks hr (pa_cons (pv 0) (pa_cons (pv 1) pa_nil))) (pa_cons (pe_ix (ix_listK (K := K) rfl) (pv 1) (pv 2) (fun _ _ => rfl)) (pa_cons (pv 3) pa_nil)))))))))), ?_⟩
    obtain ⟨a, xs, rfl, ha, hx⟩ := dp_list hu
    obtain ⟨x, hxi, hxz⟩ := dpAll_get hx (show (ws.map lN)[i]? = some (lN z) by rw [List.getElem?_map, hz]; rfl)
    obtain ⟨b, rfl, hb⟩ := dp_lN hxz
    have hil := (List.getElem?_eq_some_iff.mp hz).1
    refine ⟨_, rfl, _, rfl, v, .ref a, h, ws, rfl, hv, hh, hu, hw, fun H1 s1 => ?_⟩
    refine ⟨_, rfl, _, rfl, .ref a, ws, i, rfl, dp_mono s1 hu, hil, ?_⟩
    refine ⟨_, rfl, _, rfl, _, rfl, a, _, _, _, rfl, rfl, s1.seq ha, ixn rfl hxi, b, _, rfl, .inl (s1.seq hb), _, _, rfl, rfl, t, _, _, rfl, .inr ⟨0, rfl, by omega⟩, .inr ⟨_, rfl, by rw [List.length_map]; omega⟩, _, rfl, iteF ?_⟩
    refine ⟨_, rfl, _, rfl, _, rfl, v, .ref a, h, ws, rfl, dp_mono s1 hv, hh, dp_mono s1 hu, hw, fun H2 mv ms s2 hms hP => ?_⟩
    have s3 := s1.trans s2
    refine ⟨_, rfl, _, rfl, a, _, _, _, rfl, rfl, s3.seq ha, ixn rfl hxi, _, rfl, v, mv, .ref b, h, ws, ms, z, t, rfl, dp_mono s3 hv, hh, hw, hms, hP, dp_mono s3 hxz, List.mem_of_getElem? hz, ht, fun H3 s4 => q _ (s3.trans s4)⟩
theorem ok_opened_by (c : Cf K mg) (O_check_walks : Ok P w K mg base 9 "check_walks" ["house", "walks"] (sp_check_walks K)) (O_check_walk_number : Ok P w K mg base 3 "check_walk_number" ["walks", "number"] (sp_check_walk_number K)) (O_is_between : Ok P w K mg base 2 "is_between" ["value", "low", "high"] (sp_is_between K)) (O_opened_in : Ok P w K mg base 4 "opened_in" ["house", "masks", "walk", "tick"] (sp_opened_in K)) (O_pressed_masks : Ok P w K mg base 2 "pressed_masks" ["house", "walks"] (sp_pressed_masks K)) : Ok P w K mg base 10 "opened_by" ["house", "walks", "number", "tick"] (sp_opened_by K) := by
  obtain ⟨fd, ok, F⟩ := okF_opened_by (P := P) (w := w) (base := base) c O_check_walks O_check_walk_number O_is_between O_opened_in O_pressed_masks
  exact ⟨c.g_opened_by, fd, ok, FunD.bindsN F (fun _ _ _ _ _ _ us hl => match us, hl with | [_, _, _, _], _ => rfl), F.kp⟩
def tripD (x : Nat × Nat × Nat) : PyData := .tuple [iN x.1, iN x.2.1, iN x.2.2]
def sp_debts (K : PySem.W.Frag) : Sp := fun vs H Q _ => ∃ (v u : V) (h : Hs) (ws : List (List Nat)), vs = [v, u] ∧ Dp K H v h.data ∧ HsOk h ∧ Dp K H u (walksD ws) ∧ WalksOk h ws ∧
  ∀ H' p xs, Same H H' → H p = none → H' p = some (.lst xs) → DpAll K (hid p H') xs ((h.debts ws).map tripD) → Q (.ref p) H'
theorem row_len (h : Hs) (ws : List (List Nat)) (i : Nat) (z : List Nat) (k : Nat) : (h.row ws i z k).length ≤ k := by
  unfold Hs.row
  refine Nat.le_trans (List.length_filterMap_le _ _) ?_
  rw [List.length_range]
  omega
theorem debtsTo_len {h : Hs} {ws : List (List Nat)} (hw : WalksOk h ws) : ∀ k, k ≤ ws.length → (h.debtsTo ws k).length ≤ 100 * k
  | 0, _ => by rw [debtsTo_zero]; simp
  | k + 1, hk => by
    have e : ws[k]? = some ws[k] := List.getElem?_eq_getElem (by omega)
    rw [debtsTo_succ e, List.length_append]
    have h1 := debtsTo_len hw k (by omega)
    have h2 := row_len h ws k ws[k] (ws[k].length - 1)
    have h3 := (hw.1 ws[k] (List.getElem_mem (by omega))).few
    omega
theorem sc_debts : FnScope ["house", "walks", "masks", "found", "number", "walk", "tick", "many"] ["house", "walks"] (defScope s_debts) := ⟨rfl, rfl, rfl, by decide +kernel, rfl, by decide +kernel, by decide +kernel⟩
theorem okF_debts (c : Cf K mg) (O_check_walks : Ok P w K mg base 9 "check_walks" ["house", "walks"] (sp_check_walks K)) (O_opened_in : Ok P w K mg base 4 "opened_in" ["house", "masks", "walk", "tick"] (sp_opened_in K)) (O_pressed_masks : Ok P w K mg base 2 "pressed_masks" ["house", "walks"] (sp_pressed_masks K)) : ∃ fd, FnOk P w K mg base CX0 10 (He.ga K "debts") fd ["house", "walks"] (sp_debts K) ∧ FunD K d_debts.name d_debts.qual d_debts.params d_debts.body d_debts.scope (He.DefD.dvs K d_debts) (He.DefD.kws K d_debts) (He.fAd K d_debts.at_) fd := by
  obtain ⟨fd, F⟩ := c.d.def_ 23 (d := d_debts) rfl
  refine ⟨fd, ?_, F⟩
  refine okN F sc_debts (fun vs H Q E h => ?_) (fun cdv A outer s H vs Q E hr h => ?_)
  · obtain ⟨v, u, h, ws, rfl, _⟩ := h
    rfl
  · obtain ⟨v, u, h, ws, rfl, hv, hh, hu, hw, q⟩ := h
    refine ⟨_, (pss_cons (ps_expr (pe_c O_check_walks hr (pa_cons (pv 0) (pa_cons (pv 1) pa_nil))))
      (pss_cons (ps_par (i := 2) (j := 3) (by rfl) sc_debts.nd rfl rfl (by decide) rfl rfl (pa_cons (pe_c O_pressed_masks hr (pa_cons (pv 0) (pa_cons (pv 1) pa_nil))) (pa_cons (pe_lst pa_nil) pa_nil)) (by rfl))
      (pss_cons (ps_for PassesOwn.never rfl (pi_enum (by rfl) c.n_enumerate (pa_cons (pv 1) pa_nil)) (pg_tupK (K := K) (n := 2) rfl rfl (pgs_cons (pg_name (i := 4) sc_debts.nd rfl (Or.inl rfl)) (pgs_cons (pg_name (i := 5) sc_debts.nd rfl (Or.inl rfl)) pgs_nil))) (pss_one (ps_for PassesOwn.never rfl (pi_range1 (by rfl) c.n_range (pa_cons (pe_op op_sub (pe_callB (call_lenK (K := K) rfl) (by rfl) c.n_len boot_len (pa_cons (pv 5) pa_nil)) pe_int) pa_nil)) (pg_name (i := 6) sc_debts.nd rfl (Or.inl rfl)) (pss_cons (ps_set (i := 7) sc_debts.nd rfl (Or.inl rfl) (pe_c O_opened_in hr (pa_cons (pv 0) (pa_cons (pv 2) (pa_cons (pv 5) (pa_cons (pv 6) pa_nil))))))
      (pss_one (ps_if (PW.pt (pw_and (pt_cmpR op_notN (pv 7) pe_non (nomark _)) (pw_and1 (pt_cmpR op_gt (pv 7) (pe_op op_add (pv 6) pe_int) (nomark _))))) (pss_one (ps_expr (pe_bm PySem.F.plainAttrs_list PySem.F.slot_list_append PySem.F.type_list_append mt_append (pv 3) (pa_cons (pe_tup (pa_cons (pv 4) (pa_cons (pv 6) (pa_cons (pv 7) pa_nil)))) pa_nil)))) pss_nil))))))
      (pss_one (ps_ret (pv 3)))))), ?_⟩
    obtain ⟨a, xs, rfl, ha, hx⟩ := dp_list hu
    have hxl : xs.length = ws.length := by rw [dpAll_len hx, List.length_map]
    have hwf := hw.2
    refine ⟨_, rfl, _, rfl, v, .ref a, h, ws, rfl, hv, hh, hu, hw, fun H1 s1 => ?_⟩
    refine ⟨_, rfl, _, rfl, v, .ref a, h, ws, rfl, dp_mono s1 hv, hh, dp_mono s1 hu, hw, fun H2 mv ms s2 hms hP => ?_⟩
    have s3 := s1.trans s2
    refine ⟨Nat.zero_le _, fun F hF => ⟨_, _, rfl, ?_⟩⟩
    have hF0 : H F = none := s3.free hF
    refine ⟨_, rfl, a, _, rfl, (s3.trans (same_upd hF)).seq ha, for_it (walk_enum (xs := xs)) (fun i σ H' => Same H H' ∧ Same H2 H' ∧ ∃ (o4 o5 o6 o7 : Option V) (ys : List V), σ = [some v, some (.ref a), some mv, some (.ref F), o4, o5, o6, o7] ∧ H' F = some (.lst ys) ∧ DpAll K (hid F H') ys ((h.debtsTo ws i).map tripD))
      ⟨s3.trans (same_upd hF), same_upd hF, none, none, none, none, [], rfl, upd_same, .nil⟩ (fun i σ H' _ p => p.1.seq ha) ?_ ?_⟩
    · rintro i x σ H3 H4 hi ⟨s4, s4', o4, o5, o6, o7, ys, rfl, e4, hys⟩ ⟨T, x1, x2, rfl, hT, rfl, f1, f2⟩
      cases f1
      obtain ⟨e, he, hxe⟩ := dpAll_at hx f2
      obtain ⟨z, hz, rfl⟩ := map_get he
      obtain ⟨n, rfl, hn⟩ := dp_lN hxe
      have hzm := List.mem_of_getElem? hz
      have hzl := (hw.1 z hzm).few
      have hil := (List.getElem?_eq_some_iff.mp hz).1
      have nT : T ≠ F := fun z => by rw [z, e4] at hT; cases hT
      have t3 : Same H3 (upd H3 T (.tup [.int (i : Nat), .ref n])) := same_upd hT
      have e5 : (upd H3 T (.tup [.int (i : Nat), .ref n])) F = some (.lst ys) := by rw [upd_ne nT.symm]; exact e4
      have hys5 := dpAll_mono (hid_mono (D := F) t3) hys
      have s5 := s4.trans t3
      have s5' := s4'.trans t3
      refine ⟨T, _, rfl, .inl (.inl upd_same), rfl, _, _, rfl, _, _, rfl, rfl, ?_⟩
      generalize upd H3 T (.tup [.int (i : Nat), .ref n]) = H5 at s5 s5' e5 hys5 ⊢
      refine ⟨_, rfl, n, _, rfl, .inl (s5.seq hn), _, _, rfl, rfl, _, rfl, ge62 (by omega), li62 (by rw [List.length_map]; omega), ?_⟩
      refine for_range (fun j σ H' => Same H H' ∧ Same H2 H' ∧ ∃ (o6 o7 : Option V) (ys : List V), σ = [some v, some (.ref a), some mv, some (.ref F), some (vN i), some (.ref n), o6, o7] ∧ H' F = some (.lst ys) ∧ DpAll K (hid F H') ys ((h.debtsTo ws i ++ h.row ws i z j).map tripD)) ⟨s5, s5', o6, o7, ys, rfl, e5, by rw [row_zero, List.append_nil]; exact hys5⟩ ?_ ?_
      · rintro j σ H6 hj ⟨s6, s6', o6, o7, ys, rfl, e6, hys⟩
        rw [List.length_map] at hj
        have hjz : j + 1 < z.length := by omega
        have ej : (0 : Int) + (j : Int) = ((j : Nat) : Int) := by omega
        rw [ej]
        refine ⟨_, rfl, _, rfl, _, rfl, _, rfl, v, mv, .ref n, h, ws, ms, z, j, rfl, dp_mono s6 hv, hh, hw, dp_mono s6' hms, hP, dp_mono s6 hxe, hzm, hjz, fun H7 s7 => ?_⟩
        have e7 := s7 _ _ e6
        have hys7 := dpAll_mono (hid_mono (D := F) s7) hys
        have s8 := s6.trans s7
        have s8' := s6'.trans s7
        have hlen := dpAll_len hys7
        rw [List.length_map, List.length_append] at hlen
        have hb1 := debtsTo_len hw i (by omega)
        have hb2 := row_len h ws i z j
        cases eo : h.opened ws z j with
        | none =>
          refine ⟨_, rfl, rfl, _, rfl, iteF (iteF ⟨s8, s8', _, some .non, ys, rfl, e7, ?_⟩)⟩
          rw [row_succ, eo]
          simpa [debt] using hys7
        | some m =>
          refine ⟨_, rfl, rfl, _, rfl, iteT ⟨_, rfl, _, rfl, _, _, rfl, rfl, _, _, rfl, rfl, _, rfl, ?_⟩⟩
          by_cases hm : j + 1 < m
          · refine itP (decide_eq_true (by omega)) ?_
            refine ⟨_, rfl, .inl ⟨rfl, _, .inl (.inl e7)⟩, _, rfl, _, rfl, _, rfl, (by show 3 ≤ sizeLine; decide), fun T2 hT2 => ?_⟩
            have nT2 : T2 ≠ F := fun z => by rw [z, e7] at hT2; cases hT2
            refine ⟨F, ys, _, rfl, rfl, by rw [upd_ne nT2.symm]; exact e7, Nat.lt_of_le_of_lt (show ys.length ≤ 100000 by omega) (by decide), same_put (s8.trans (same_upd hT2)) hF0, same_put (s8'.trans (same_upd hT2)) hF, _, some (vN m), _, rfl, upd_same, ?_⟩
            rw [row_succ, eo, hid_upd, ← List.append_assoc, List.map_append]
            show DpAll K _ _ (_ ++ (List.map tripD (debt i j (some m)).toList))
            have ed : debt i j (some m) = some (i, j, m) := if_pos hm
            rw [ed]
            refine dpAll_snoc (dpAll_mono (hid_mono (same_upd hT2)) hys7) (.tup (.inl (.inl ?_)) (.cons (.int _) (.cons (.int _) (.cons (.int _) .nil))))
            rw [hid_ne nT2]
            exact upd_same
          · refine itN (decide_eq_false (by omega)) ⟨s8, s8', _, some (vN m), ys, rfl, e7, ?_⟩
            have ed : debt i j (some m) = none := if_neg hm
            rw [row_succ, eo, ed]
            simpa using hys7
      · rintro σ H6 ⟨s6, s6', o6, o7, ys, rfl, e6, hys⟩
        refine ⟨s6, s6', some (vN i), some (.ref n), o6, o7, ys, rfl, e6, ?_⟩
        rw [debtsTo_succ hz]
        rw [List.length_map] at hys
        have : ((z.length : Int) - 1 - 0).toNat = z.length - 1 := by omega
        first | (rw [this] at hys; exact hys) | (rw [show ((z.length : Int) - 1).toNat = z.length - 1 by omega] at hys; exact hys) | exact hys
    · rintro σ H3 ⟨s4, s4', o4, o5, o6, o7, ys, rfl, e4, hys⟩
      rw [hxl] at hys
      exact ⟨_, rfl, q _ F ys s4 hF0 e4 hys⟩
theorem ok_debts (c : Cf K mg) (O_check_walks : Ok P w K mg base 9 "check_walks" ["house", "walks"] (sp_check_walks K)) (O_opened_in : Ok P w K mg base 4 "opened_in" ["house", "masks", "walk", "tick"] (sp_opened_in K)) (O_pressed_masks : Ok P w K mg base 2 "pressed_masks" ["house", "walks"] (sp_pressed_masks K)) : Ok P w K mg base 10 "debts" ["house", "walks"] (sp_debts K) := by
  obtain ⟨fd, ok, F⟩ := okF_debts (P := P) (w := w) (base := base) c O_check_walks O_opened_in O_pressed_masks
  exact ⟨c.g_debts, fd, ok, FunD.bindsN F (fun _ _ _ _ _ _ us hl => match us, hl with | [_, _], _ => rfl), F.kp⟩
end
end K30

/-! #### I -/
namespace K30
open PySem PySem.Spec PyProof.Rows L2
/-! ### list + list, whatever holds them -/
def rCatS (K : PySem.W.Frag) : R2 := fun x y H Q => ∃ l b xs zs, x = .ref l ∧ y = .ref b ∧ SqL K H l xs ∧ SqL K H b zs ∧ xs.length + zs.length ≤ sizeLine ∧ ∀ p, H p = none → Q (.ref p) (upd H p (.lst (xs ++ zs)))
theorem op_catS {X : Cx} {K : PySem.W.Frag} (hK : X.K = K) : OpR X (binaryOp .Add) (rCatS K) := by
  subst hK
  intro pins s σ H x y v u Q I rx ry h
  obtain ⟨l, b, xs, zs, rfl, rfl, hl, hb, hz, q⟩ := h
  cases rx
  cases ry
  obtain ⟨its, r, p, _⟩ := I.list hl
  obtain ⟨its2, r2, p2, _⟩ := I.list hb
  have k1 := r.length
  have k2 := r2.length
  obtain ⟨⟨cls, dd, data, sl⟩, ho, hc, n, hd⟩ := id p.isList
  obtain ⟨⟨cls2, dd2, data2, sl2⟩, ho2, hc2, n2, hd2⟩ := id p2.isList
  simp only at hc hd hc2 hd2
  subst hc hd hc2 hd2
  refine concat_meets ⟨_, ho, rfl⟩ ⟨_, ho2, rfl⟩ noFill_list_add seq_list_add PySem.F.slot_list_add PySem.F.entry_list_add (PySem.F.args_list_add_2 _ _) (list_addW l b its.toArray its2.toArray n n2 dd dd2 sl sl2 (by simp; omega)) ⟨ho, ho2, ?_⟩
  have ea : its.toArray ++ its2.toArray = (its ++ its2).toArray := by simp
  rw [ea]
  exact ⟨.ref _, _, I.lnew (t' := s.toks) (r.append r2) (by rw [List.length_append]; omega), rfl, q _ I.fresh⟩
/-! ### draws -/
/-- a generator: its three numbers, the third at most B -/
def Gn (H : Hp) (g : Addr) (B : Nat) : Prop := ∃ (a b : Int) (c : Nat), H g = some (.lst [.int a, .int b, .int c]) ∧ 0 ≤ b ∧ b < 2 ^ 31 ∧ c ≤ B
theorem Gn.mono {H : Hp} {g : Addr} {B B' : Nat} (h : Gn H g B) (k : B ≤ B') : Gn H g B' := by
  obtain ⟨a, b, c, h1, h2, h3, h4⟩ := h
  exact ⟨a, b, c, h1, h2, h3, Nat.le_trans h4 k⟩
theorem Gn.same {H H' : Hp} {g : Addr} {B : Nat} (h : Gn H g B) (s : Same H H') : Gn H' g B := by
  obtain ⟨a, b, c, h1, h2⟩ := h
  exact ⟨a, b, c, s _ _ h1, h2⟩
theorem bits_few {n : Nat} (h : n ≤ 1000) : ((Builtin.Int.intBits (n : Int) : Nat) : Int) / 30 = 0 := by
  have : Builtin.Int.intBits (n : Int) ≤ 10 := by
    unfold Builtin.Int.intBits
    split
    · omega
    · rw [Int.natAbs_natCast]
      have : n.log2 < 10 := by
        rcases Nat.eq_zero_or_pos n with h0 | h0
        · rw [h0]
          decide
        · exact (Nat.log2_lt (by omega)).mpr (by omega)
      omega
  omega
theorem modB (x k : Int) (h0 : 0 < k) (h1 : k ≤ 2147483648) : -(2 ^ 64) < x % k ∧ x % k < 2 ^ 64 := by
  have a1 := Int.emod_nonneg x (show k ≠ 0 by omega)
  have a2 := Int.emod_lt_of_pos x h0
  exact ⟨by omega, by omega⟩
section
variable {P : Program} {w : World} {K : PySem.W.Frag} {mg : Str → Option Value} {base : Heap}
def sp_law_hash (K : PySem.W.Frag) : Sp := fun vs H Q _ => ∃ s i : Int, vs = [.int s, .int i] ∧ -(2 ^ 64) < s ∧ s < 2 ^ 64 ∧ -(2 ^ 64) < i ∧ i < 2 ^ 64 ∧ ∀ r : Int, Q (.int r) H
theorem sc_law_hash : FnScope ["_law_seed", "_law_index", "_law_mixed"] ["_law_seed", "_law_index"] (defScope s_law_hash) := ⟨rfl, rfl, rfl, by decide +kernel, rfl, by decide +kernel, by decide +kernel⟩
theorem ok_law_hash (c : Cf K mg)  : Ok P w K mg base 1 "_law_hash" ["_law_seed", "_law_index"] (sp_law_hash K) := by
  obtain ⟨fd, F⟩ := c.d.def_ 24 (d := d_law_hash) rfl
  refine ⟨c.g_law_hash, fd, ?_, FunD.bindsN F (fun _ _ _ _ _ _ us hl => match us, hl with | [_, _], _ => rfl), F.kp⟩
  refine okN F sc_law_hash (fun vs H Q E h => ?_) (fun cdv A outer s H vs Q E hr h => ?_)
  · obtain ⟨z, i, rfl, _⟩ := h
    rfl
  · obtain ⟨z, i, rfl, h1, h2, h3, h4, q⟩ := h
    refine ⟨_, (pss_cons (ps_set (i := 2) sc_law_hash.nd rfl (Or.inl rfl) (pe_op op_mod (pe_callTy call_int1 (by rfl) c.n_int (by decide +kernel) (pa_cons (pe_op op_add (pe_op op_add (pe_op op_add (pe_op op_mul (pv 0) pe_int) (pe_op op_mul (pe_op op_mul pe_int (pv 1)) (pv 1))) (pe_op op_mul pe_int (pv 1))) pe_int) pa_nil)) pe_int))
      (pss_cons (ps_set (i := 2) sc_law_hash.nd rfl (Or.inl rfl) (pe_op op_mod (pe_callTy call_int1 (by rfl) c.n_int (by decide +kernel) (pa_cons (pe_op op_add (pe_op op_add (pe_op op_mul (pv 2) (pv 2)) (pe_op op_mul pe_int (pv 1))) pe_int) pa_nil)) pe_int))
      (pss_one (ps_ret (pe_op op_mod (pe_callTy call_int1 (by rfl) c.n_int (by decide +kernel) (pa_cons (pe_op op_mul (pv 2) pe_int) pa_nil)) pe_int))))), ?_⟩
    refine ⟨_, rfl, _, _, rfl, rfl, .inl ⟨h1, h2⟩, _, rfl, _, _, rfl, rfl, .inl ⟨by decide, by decide⟩, _, rfl, _, _, rfl, rfl, .inr ⟨h3, h4⟩, _, _, rfl, rfl, _, rfl, _, _, rfl, rfl, .inl ⟨by decide, by decide⟩, _, _, rfl, rfl, _, _, rfl, rfl, .inl ⟨_, rfl, _, _, rfl, rfl, (by show (0 : Int) < 2147483629; decide), ?_⟩⟩
    have b1 := modB (z * 1140671 + 27644437 * i * i + 131 * i + 19) 2147483629 (by decide) (by decide)
    refine ⟨_, rfl, _, rfl, _, _, rfl, rfl, .inl b1, _, rfl, _, _, rfl, rfl, .inl ⟨by decide, by decide⟩, _, _, rfl, rfl, _, _, rfl, rfl, .inl ⟨_, rfl, _, _, rfl, rfl, (by show (0 : Int) < 2147483587; decide), ?_⟩⟩
    exact ⟨_, rfl, _, _, rfl, rfl, .inl (modB _ 2147483587 (by decide) (by decide)), .inl ⟨_, rfl, _, _, rfl, rfl, (by show (0 : Int) < 2147483647; decide), q _⟩⟩
def sp_law_random (K : PySem.W.Frag) : Sp := fun vs H Q _ => ∃ (g : Addr) (n B : Nat), vs = [.ref g, vN n] ∧ Gn H g B ∧ B ≤ 1000000000 ∧ 0 < n ∧ n ≤ 1000 ∧ ∀ H' (r : Nat), hid g H' = hid g H → Gn H' g (B + 1) → r < n → Q (vN r) H'
theorem sc_law_random : FnScope ["_law_generator_here", "_law_bound", "_law_drawn", "_law_turn"] ["_law_generator_here", "_law_bound"] (defScope s_law_random) := ⟨rfl, rfl, rfl, by decide +kernel, rfl, by decide +kernel, by decide +kernel⟩
theorem ok_law_random (c : Cf K mg) (O_law_hash : Ok P w K mg base 1 "_law_hash" ["_law_seed", "_law_index"] (sp_law_hash K)) : Ok P w K mg base 2 "_law_random" ["_law_generator_here", "_law_bound"] (sp_law_random K) := by
  obtain ⟨fd, F⟩ := c.d.def_ 25 (d := d_law_random) rfl
  refine ⟨c.g_law_random, fd, ?_, FunD.bindsN F (fun _ _ _ _ _ _ us hl => match us, hl with | [_, _], _ => rfl), F.kp⟩
  refine okN F sc_law_random (fun vs H Q E h => ?_) (fun cdv A outer s H vs Q E hr h => ?_)
  · obtain ⟨g, n, B, rfl, _⟩ := h
    rfl
  · obtain ⟨g, n, B, rfl, hg, hB, hn0, hn, q⟩ := h
    refine ⟨_, (pss_cons (ps_if (pt_cmpR op_gt (pe_ix (ix_listK (K := K) rfl) (pv 0) pe_int (fun _ _ => rfl)) pe_int (nomark _)) (pss_cons (ps_set (i := 2) sc_law_random.nd rfl (Or.inl rfl) (pe_op op_mod (pe_callTy call_int1 (by rfl) c.n_int (by decide +kernel) (pa_cons (pe_ix (ix_listK (K := K) rfl) (pv 0) pe_int (fun _ _ => rfl)) pa_nil)) (pv 1)))
      (pss_cons (ps_asg (pe_op op_fdiv (pe_ix (ix_listK (K := K) rfl) (pv 0) pe_int (fun _ _ => rfl)) (pv 1)) (pg_sub (pv 0) pe_int set_list))
      (pss_one (ps_ret (pv 2))))) pss_nil)
      (pss_cons (ps_set (i := 2) sc_law_random.nd rfl (Or.inl rfl) pe_int)
      (pss_cons (ps_for PassesOwn.never rfl (pi_range1 (by rfl) c.n_range (pa_cons (pe_op op_add pe_int (pe_op op_fdiv (pe_bits (pv 1)) pe_int)) pa_nil)) (pg_name (i := 3) sc_law_random.nd rfl (Or.inl rfl)) (pss_cons (ps_asg (pe_op op_add (pe_ix (ix_listK (K := K) rfl) (pv 0) pe_int (fun _ _ => rfl)) pe_int) (pg_sub (pv 0) pe_int set_list))
      (pss_one (ps_set (i := 2) sc_law_random.nd rfl (Or.inl rfl) (pe_op op_add (pe_op op_mul (pv 2) pe_int) (pe_c O_law_hash hr (pa_cons (pe_ix (ix_listK (K := K) rfl) (pv 0) pe_int (fun _ _ => rfl)) (pa_cons (pe_ix (ix_listK (K := K) rfl) (pv 0) pe_int (fun _ _ => rfl)) pa_nil))))))))
      (pss_one (ps_ret (pe_op op_mod (pe_callTy call_int1 (by rfl) c.n_int (by decide +kernel) (pa_cons (pv 2) pa_nil)) (pv 1))))))), ?_⟩
    obtain ⟨a, b, c0, hgl, hb1, hb2, hc0⟩ := hg
    have sg : SqL K H g [.int a, .int b, .int c0] := .inl (.inl hgl)
    have rem : ∀ x : Int, ∃ r : Nat, V.int (x % (n : Int)) = vN r ∧ r < n := fun x => by
      have a1 := Int.emod_nonneg x (show (n : Int) ≠ 0 by omega)
      have a2 := Int.emod_lt_of_pos x (show (0 : Int) < n by omega)
      refine ⟨(x % (n : Int)).toNat, ?_, by omega⟩
      show V.int _ = V.int _
      rw [Int.toNat_of_nonneg a1]
    refine ⟨_, rfl, g, _, _, _, rfl, rfl, sg, rfl, _, _, rfl, rfl, _, rfl, ?_⟩
    refine ite2 (fun _ => ?_) (fun _ => ?_)
    · refine ⟨_, rfl, g, _, _, _, rfl, rfl, sg, rfl, .inl ⟨_, rfl, _, rfl, _, _, rfl, rfl, (by show (0 : Int) < (n : Int); omega), ?_⟩⟩
      refine ⟨_, rfl, g, _, _, _, rfl, rfl, sg, rfl, _, rfl, _, _, rfl, rfl, ⟨(by omega), (by omega)⟩, _, rfl, g, _, _, 0, rfl, rfl, hgl, rfl, ?_⟩
      obtain ⟨r, hr1, hr2⟩ := rem a
      refine ⟨_, rfl, ?_⟩
      show Q (V.int (a % (n : Int))) _
      rw [hr1]
      exact q _ r (hid_upd g H _) ⟨_, b, c0, upd_same, hb1, hb2, by omega⟩ hr2
    · refine ⟨_, rfl, _, rfl, _, _, rfl, rfl, ⟨by decide, by decide⟩, _, _, rfl, rfl, 1, by rw [bits_few hn] <;> rfl, by decide, by decide, ?_⟩
      refine for_range (fun i σ H' => (i = 0 ∧ H' = H ∧ σ = [some (.ref g), some (vN n), some (.int 0), none]) ∨ (i = 1 ∧ ∃ (x : Int) (o : Option V), H' = upd H g (.lst [.int a, .int b, .int ((c0 + 1 : Nat) : Int)]) ∧ σ = [some (.ref g), some (vN n), some (.int x), o])) (.inl ⟨rfl, rfl, rfl⟩) ?_ ?_
      · rintro i σ H' hi (⟨rfl, rfl, rfl⟩ | ⟨rfl, _⟩)
        · refine ⟨_, rfl, g, _, _, _, rfl, rfl, sg, rfl, _, _, rfl, rfl, _, rfl, g, _, _, 2, rfl, rfl, hgl, rfl, ?_⟩
          have sg2 : SqL K (upd H' g (.lst [.int a, .int b, .int ((c0 : Int) + 1)])) g [.int a, .int b, .int ((c0 : Int) + 1)] := .inl (.inl upd_same)
          refine ⟨_, rfl, _, _, rfl, rfl, .inl ⟨by decide, by decide⟩, _, rfl, g, _, _, _, rfl, rfl, sg2, rfl, _, rfl, g, _, _, _, rfl, rfl, sg2, rfl, b, _, rfl, by omega, by omega, by omega, by omega, fun r => ?_⟩
          exact ⟨_, _, rfl, rfl, .inr ⟨rfl, _, _, by rw [show ((c0 + 1 : Nat) : Int) = (c0 : Int) + 1 by omega] <;> rfl, rfl⟩⟩
        · exact absurd hi (by decide)
      · rintro σ H' (⟨h0, _⟩ | ⟨_, x, o, rfl, rfl⟩)
        · exact absurd h0 (by decide)
        · obtain ⟨r, hr1, hr2⟩ := rem x
          refine ⟨_, rfl, .inl ⟨_, rfl, _, rfl, _, _, rfl, rfl, (by show (0 : Int) < (n : Int); omega), ?_⟩⟩
          show Q (V.int (x % (n : Int))) _
          rw [hr1]
          exact q _ r (hid_upd g H _) ⟨_, b, c0 + 1, upd_same, hb1, hb2, by omega⟩ hr2
def sp_law_cell (K : PySem.W.Frag) : Sp := fun vs H Q _ => ∃ (a : Addr) (ns : List Int) (i : Nat), vs = [.ref a, vN i] ∧ SqL K H a (ns.map V.int) ∧ ∀ H' (r : Int), Same H H' → Q (.int r) H'
theorem sc_law_cell : FnScope ["_law_script", "_law_index"] ["_law_script", "_law_index"] (defScope s_law_cell) := ⟨rfl, rfl, rfl, by decide +kernel, rfl, by decide +kernel, by decide +kernel⟩
theorem ok_law_cell (c : Cf K mg)  : Ok P w K mg base 1 "_law_cell" ["_law_script", "_law_index"] (sp_law_cell K) := by
  obtain ⟨fd, F⟩ := c.d.def_ 26 (d := d_law_cell) rfl
  refine ⟨c.g_law_cell, fd, ?_, FunD.bindsN F (fun _ _ _ _ _ _ us hl => match us, hl with | [_, _], _ => rfl), F.kp⟩
  refine okN F sc_law_cell (fun vs H Q E h => ?_) (fun cdv A outer s H vs Q E hr h => ?_)
  · obtain ⟨a, ns, i, rfl, _⟩ := h
    rfl
  · obtain ⟨a, ns, i, rfl, ha, q⟩ := h
    refine ⟨_, (pss_cons (ps_if (pt_cmpR op_lt (pv 1) (pe_callB (call_lenK (K := K) rfl) (by rfl) c.n_len boot_len (pa_cons (pv 0) pa_nil)) (nomark _)) (pss_one (ps_ret (pe_ix (ix_listK (K := K) rfl) (pv 0) (pv 1) (fun _ _ => rfl)))) pss_nil)
      (pss_one (ps_ret (pe_op op_mod (pe_callB (cr_sum rfl) (by rfl) c.n_sum (by decide +kernel) (pa_cons (pe_slice (sl_listK (K := K) rfl) (pv 0) po_none (po_some pe_int)) pa_nil)) pe_int)))), ?_⟩
    refine ⟨_, rfl, _, rfl, a, _, rfl, .inl ha, _, _, rfl, rfl, _, rfl, ?_⟩
    refine ite2 (fun hlt => ?_) (fun _ => ?_)
    · have hlt' := of_decide_eq_true hlt
      rw [List.length_map] at hlt'
      have hi : i < ns.length := by omega
      have g1 : (ns.map V.int)[i]? = some (V.int ns[i]) := by
        rw [List.getElem?_map, List.getElem?_eq_getElem hi]
        rfl
      exact ⟨_, rfl, _, rfl, a, _, _, _, rfl, rfl, ha, ixn rfl g1, q _ _ (Same.refl H)⟩
    · refine ⟨_, rfl, 1, rfl, a, _, rfl, ha, fun p hp => ?_⟩
      have e : cutV (ns.map V.int) none (some 1) = (ns.take (min 1 ns.length)).map V.int := by
        unfold cutV
        rw [show HT.sIx (ns.map V.int).length (ns.map V.int).length (some 1) = min 1 (ns.map V.int).length from HT.sIx_nat _ _ 1, HT.sIx_none, List.drop_zero, Nat.sub_zero, List.length_map, List.map_take]
      rw [e]
      exact ⟨p, _, rfl, .inl (.inl upd_same), _, _, rfl, rfl, (by show (0 : Int) < 1000003; decide), q _ _ (same_upd hp)⟩
def sp_law_generator (K : PySem.W.Frag) : Sp := fun vs H Q _ => ∃ (a : Addr) (ns : List Int) (i : Nat), vs = [.ref a, vN i] ∧ SqL K H a (ns.map V.int) ∧ i ≤ 100 ∧ ∀ H' g, Same H H' → H g = none → Gn H' g 100000 → Q (.ref g) H'
theorem sc_law_generator : FnScope ["_law_script", "_law_index", "_law_seed"] ["_law_script", "_law_index"] (defScope s_law_generator) := ⟨rfl, rfl, rfl, by decide +kernel, rfl, by decide +kernel, by decide +kernel⟩
theorem ok_law_generator (c : Cf K mg) (O_law_cell : Ok P w K mg base 1 "_law_cell" ["_law_script", "_law_index"] (sp_law_cell K)) : Ok P w K mg base 2 "_law_generator" ["_law_script", "_law_index"] (sp_law_generator K) := by
  obtain ⟨fd, F⟩ := c.d.def_ 27 (d := d_law_generator) rfl
  refine ⟨c.g_law_generator, fd, ?_, FunD.bindsN F (fun _ _ _ _ _ _ us hl => match us, hl with | [_, _], _ => rfl), F.kp⟩
  refine okN F sc_law_generator (fun vs H Q E h => ?_) (fun cdv A outer s H vs Q E hr h => ?_)
  · obtain ⟨a, ns, i, rfl, _⟩ := h
    rfl
  · obtain ⟨a, ns, i, rfl, ha, hi, q⟩ := h
    refine ⟨_, (pss_cons (ps_set (i := 2) sc_law_generator.nd rfl (Or.inl rfl) (pe_c O_law_cell hr (pa_cons (pv 0) (pa_cons (pv 1) pa_nil))))
      (pss_one (ps_ret (pe_lst (pa_cons (pe_op op_mod (pe_callTy call_int1 (by rfl) c.n_int (by decide +kernel) (pa_cons (pe_callB (call_max2 rfl) (by rfl) c.n_max (by decide +kernel) (pa_cons (pe_op op_sub (pv 2) (pe_op op_powW pe_int pe_int)) (pa_cons pe_int pa_nil))) pa_nil)) (pe_op op_powW (pe_op op_powW pe_int pe_int) pe_int)) (pa_cons (pe_op op_mod (pe_callTy call_int1 (by rfl) c.n_int (by decide +kernel) (pa_cons (pv 2) pa_nil)) pe_int) (pa_cons (pe_op op_mul pe_int (pv 1)) pa_nil))))))), ?_⟩
    refine ⟨_, rfl, _, rfl, a, ns, i, rfl, ha, fun H1 r s1 => ?_⟩
    have b1 : (Builtin.Int.intBits 10 : Int) * 18 ≤ 2 ^ 27 := by decide +kernel
    have b2 : (Builtin.Int.intBits 10 : Int) * 60 ≤ 2 ^ 27 := by decide +kernel
    have b3 : (Builtin.Int.intBits (10 ^ (60 : Int).toNat) : Int) * 10 ≤ 2 ^ 27 := by decide +kernel
    refine ⟨_, rfl, _, _, rfl, rfl, ⟨by decide, b1⟩, _, _, rfl, rfl, _, _, rfl, .inl ⟨_, rfl, _, _, rfl, rfl, ⟨by decide, b2⟩, _, _, rfl, rfl, ⟨by decide, b3⟩, _, _, rfl, rfl, (by show (0 : Int) < (10 ^ (60 : Int).toNat) ^ (10 : Int).toNat; decide +kernel), ?_⟩⟩
    refine ⟨_, rfl, .inl ⟨_, rfl, _, _, rfl, rfl, (by show (0 : Int) < 2147483647; decide), _, rfl, _, _, rfl, rfl, .inl ⟨by decide, by decide⟩, (by show 3 ≤ sizeLine; decide), fun g hg => ?_⟩⟩
    exact q _ g (s1.trans (same_upd hg)) (s1.free hg) ⟨_, _, 1000 * i, Eq.trans upd_same (by rw [show ((1000 * i : Nat) : Int) = 1000 * (i : Int) by omega] <;> rfl), Int.emod_nonneg r (show (2147483647 : Int) ≠ 0 by decide), Int.lt_trans (Int.emod_lt_of_pos r (show (0 : Int) < 2147483647 by decide)) (by decide), by omega⟩
end
end K30

/-! #### J -/
namespace K30
open PySem PySem.Spec PyProof.Rows L2
/-! ### heaps without the generator -/
theorem hid_get {g a : Addr} {H H' : Hp} (e : hid g H' = hid g H) (n : a ≠ g) : H' a = H a := by
  have := congrFun e a
  rw [hid_ne n, hid_ne n] at this
  exact this
theorem hid_eqS {g : Addr} {H H' : Hp} (e : hid g H' = hid g H) : Same (hid g H) (hid g H') := e ▸ Same.refl _
theorem hid_new {g D : Addr} {H : Hp} {o : HO} (h : H D = none) : Same (hid g H) (hid g (upd H D o)) := hid_mono (same_upd h)
theorem hid_none {g D : Addr} {H : Hp} (h : H D = none) : hid g H D = none := by
  unfold hid
  split
  · rfl
  · exact h
theorem hid_put {g D : Addr} {H H' : Hp} {o : HO} (s : Same (hid g H) (hid g H')) (h : H D = none) : Same (hid g H) (hid g (upd H' D o)) := fun b x e => by
  have e' := s b x e
  have nb : b ≠ g := fun z => by rw [z, hid_at] at e; cases e
  have nD : b ≠ D := fun z => by rw [z, hid_none h] at e; cases e
  rw [hid_ne nb] at e' ⊢
  rw [upd_ne nD]
  exact e'
theorem hid_upd_ne {g D : Addr} {H : Hp} {o : HO} (n : D ≠ g) : hid g (upd H D o) = upd (hid g H) D o := funext fun b => by
  by_cases hb : b = g
  · rw [hb, hid_at, upd_ne n.symm, hid_at]
  · rw [hid_ne hb]
    by_cases hd : b = D
    · rw [hd, upd_same, upd_same]
    · rw [upd_ne hd, upd_ne hd, hid_ne hb]
theorem hid_free {g a : Addr} {H H' : Hp} (s : Same (hid g H) (hid g H')) (n : a ≠ g) (h : H' a = none) : H a = none := by
  have := s.free (l := a) (by rw [hid_ne n]; exact h)
  rw [hid_ne n] at this
  exact this
theorem hid_some {g a : Addr} {H H' : Hp} {o : HO} (s : Same (hid g H) (hid g H')) (n : a ≠ g) (h : H a = some o) : H' a = some o := by
  have := s a o (by rw [hid_ne n]; exact h)
  rwa [hid_ne n] at this
theorem Gn.put {H : Hp} {g D : Addr} {B : Nat} {o : HO} (h : Gn H g B) (n : D ≠ g) : Gn (upd H D o) g B := by
  obtain ⟨a, b, c, h1, h2⟩ := h
  exact ⟨a, b, c, by rw [upd_ne n.symm]; exact h1, h2⟩
theorem Gn.ne {H : Hp} {g D : Addr} {B : Nat} (h : Gn H g B) (k : H D = none) : D ≠ g := by
  obtain ⟨a, b, c, h1, h2⟩ := h
  exact fun z => by rw [z, h1] at k; cases k
theorem ne_some {H : Hp} {a b : Addr} {o : HO} (h : H a = some o) (k : H b = none) : b ≠ a := fun z => by rw [z, h] at k; cases k
section
variable {P : Program} {w : World} {K : PySem.W.Frag} {mg : Str → Option Value} {base : Heap}
def sp_law_lights (K : PySem.W.Frag) : Sp := fun vs H Q _ => ∃ (g : Addr) (R n B : Nat), vs = [.ref g, vN R, vN n] ∧ Gn H g B ∧ B ≤ 100000000 ∧ R ≤ 100 ∧ 0 < n ∧ n ≤ 1000 ∧
  ∀ H' p l, Same (hid g H) (hid g H') → Gn H' g (B + R) → H p = none → H' p = some (.lst (l.map vN)) → Lights R l → Q (.ref p) H'
theorem sc_law_lights : FnScope ["_law_generator_here", "_law_rooms", "_law_part", "_law_room"] ["_law_generator_here", "_law_rooms", "_law_part"] (defScope s_law_lights) := ⟨rfl, rfl, rfl, by decide +kernel, rfl, by decide +kernel, by decide +kernel⟩
theorem ok_law_lights (c : Cf K mg) (O_law_random : Ok P w K mg base 2 "_law_random" ["_law_generator_here", "_law_bound"] (sp_law_random K)) : Ok P w K mg base 3 "_law_lights" ["_law_generator_here", "_law_rooms", "_law_part"] (sp_law_lights K) := by
  obtain ⟨fd, F⟩ := c.d.def_ 29 (d := d_law_lights) rfl
  refine ⟨c.g_law_lights, fd, ?_, FunD.bindsN F (fun _ _ _ _ _ _ us hl => match us, hl with | [_, _, _], _ => rfl), F.kp⟩
  refine okN F sc_law_lights (fun vs H Q E h => ?_) (fun cdv A outer s H vs Q E hr h => ?_)
  · obtain ⟨g, R, n, B, rfl, _⟩ := h
    rfl
  · obtain ⟨g, R, n, B, rfl, hg, hB, hR, hn0, hn, q⟩ := h
    refine ⟨_, (pss_one (ps_ret (pe_lc (own := [("_law_room", 3)]) (g := gName 3) (by rfl) sc_law_lights.nd (pi_range1 (by rfl) c.n_range (pa_cons (pv 1) pa_nil)) (blkOk_by (own := [("_law_room", 3)]) (N := ["_law_generator_here", "_law_rooms", "_law_part", "_law_room"]) (sc := defScope s_law_lights) (by decide +kernel)) (fun _ _ _ _ _ => (pg_name (i := 3) sc_law_lights.nd rfl (Or.inl rfl))) (fun _ _ _ _ _ => (pts_one (pt_cmpR op_eq (pe_c O_law_random hr (pa_cons (pv 0) (pa_cons (pv 2) pa_nil))) pe_int (nomark _)))) (fun _ _ _ _ _ => (pv 3))))), ?_⟩
    refine ⟨_, rfl, _, rfl, ge62 (by omega), li62 (by omega), fun D hD => ?_⟩
    have nD := hg.ne hD
    refine lc_range (fun i H' => Same (hid g H) (hid g H') ∧ Gn H' g (B + i) ∧ ∃ l : List Nat, H' D = some (.lst (l.map vN)) ∧ l.Pairwise (· < ·) ∧ l.length ≤ i ∧ ∀ x ∈ l, x < i) ⟨hid_new hD, hg.put nD, [], upd_same, .nil, Nat.le_refl _, fun x hx => by simp at hx⟩ ?_ ?_
    · rintro i H2 hi ⟨s2, g2, l, e2, hp, hll, hl⟩
      have hi' : i < R := by omega
      refine ⟨rfl, _, rfl, _, rfl, g, n, B + i, rfl, g2, by omega, hn0, hn, fun H3 r e3 g3 hr => ?_⟩
      have e3D : H3 D = some (.lst (l.map vN)) := by rw [hid_get e3 nD]; exact e2
      have s3 := s2.trans (hid_eqS e3)
      refine ⟨rfl, _, rfl, ?_⟩
      by_cases h0 : r = 0
      · subst h0
        refine itP rfl ⟨_, rfl, _, e3D, by rw [List.length_map]; exact small100 (by omega), hid_put s3 hD, g3.put nD, l ++ [i], ?_, ?_, ?_, ?_⟩
        · rw [upd_same, List.map_append, Int.zero_add]
          rfl
        · rw [List.pairwise_append]
          exact ⟨hp, by simp, fun a ha b hb => by rw [List.mem_singleton] at hb; subst hb; exact hl a ha⟩
        · rw [List.length_append, List.length_singleton]
          omega
        · intro x hx
          rw [List.mem_append, List.mem_singleton] at hx
          rcases hx with hx | hx
          · have := hl x hx
            omega
          · omega
      · refine itN (decide_eq_false fun e => h0 (by have := V.int.inj e; omega)) ⟨s3, g3, l, e3D, hp, by omega, fun x hx => Nat.lt_succ_of_lt (hl x hx)⟩
    · rintro H2 ⟨s2, g2, l, e2, hp, hll, hl⟩
      rw [Int.toNat_natCast] at g2 hll hl
      exact q H2 D l s2 g2 hD e2 ⟨hp, hl, by omega⟩
def sp_law_level (K : PySem.W.Frag) : Sp := fun vs H Q _ => ∃ (g : Addr) (m d B : Nat), vs = [.ref g, vN m, vN d] ∧ Gn H g B ∧ B ≤ 10000000 ∧ 0 < m ∧ m ≤ 20 ∧ 0 < d ∧ d ≤ 20 ∧
  ∀ H' v R ds, Same (hid g H) (hid g H') → Gn H' g (B + 1000) → Dp K (hid g H') v (levelD R ds) → 1 ≤ R → R ≤ m → (∀ x ∈ ds, DrOk R x) → ds.length ≤ d → Q v H'
theorem sc_law_level : FnScope ["_law_generator_here", "_law_most", "_law_doors", "_law_rooms", "_law_found", "_law_turn", "_law_needs"] ["_law_generator_here", "_law_most", "_law_doors"] (defScope s_law_level) := ⟨rfl, rfl, rfl, by decide +kernel, rfl, by decide +kernel, by decide +kernel⟩
theorem ok_law_level (c : Cf K mg) (O_law_random : Ok P w K mg base 2 "_law_random" ["_law_generator_here", "_law_bound"] (sp_law_random K)) (O_law_lights : Ok P w K mg base 3 "_law_lights" ["_law_generator_here", "_law_rooms", "_law_part"] (sp_law_lights K)) : Ok P w K mg base 4 "_law_level" ["_law_generator_here", "_law_most", "_law_doors"] (sp_law_level K) := by
  obtain ⟨fd, F⟩ := c.d.def_ 30 (d := d_law_level) rfl
  refine ⟨c.g_law_level, fd, ?_, FunD.bindsN F (fun _ _ _ _ _ _ us hl => match us, hl with | [_, _, _], _ => rfl), F.kp⟩
  refine okN F sc_law_level (fun vs H Q E h => ?_) (fun cdv A outer s H vs Q E hr h => ?_)
  · obtain ⟨g, m, d, B, rfl, _⟩ := h
    rfl
  · obtain ⟨g, m, d, B, rfl, hg, hB, hm0, hm, hd0, hd, q⟩ := h
    refine ⟨_, (pss_cons (ps_par (i := 3) (j := 4) (by rfl) sc_law_level.nd rfl rfl (by decide) rfl rfl (pa_cons (pe_op op_add pe_int (pe_c O_law_random hr (pa_cons (pv 0) (pa_cons (pv 1) pa_nil)))) (pa_cons (pe_lst pa_nil) pa_nil)) (by rfl))
      (pss_cons (ps_for PassesOwn.never rfl (pi_range1 (by rfl) c.n_range (pa_cons (pe_op op_add pe_int (pe_c O_law_random hr (pa_cons (pv 0) (pa_cons (pv 2) pa_nil)))) pa_nil)) (pg_name (i := 5) sc_law_level.nd rfl (Or.inl rfl)) (pss_cons (ps_set (i := 6) sc_law_level.nd rfl (Or.inl rfl) (pe_c O_law_lights hr (pa_cons (pv 0) (pa_cons (pv 3) (pa_cons (pe_ix (ix_listK (K := K) rfl) (pe_lst (pa_cons pe_int (pa_cons pe_int pa_nil))) (pe_c O_law_random hr (pa_cons (pv 0) (pa_cons pe_int pa_nil))) (fun _ _ => rfl)) pa_nil)))))
      (pss_one (ps_expr (pe_bm PySem.F.plainAttrs_list PySem.F.slot_list_append PySem.F.type_list_append mt_append (pv 4) (pa_cons (pe_tup (pa_cons (pv 6) (pa_cons (pe_c O_law_random hr (pa_cons (pv 0) (pa_cons (pv 3) pa_nil))) (pa_cons (pe_op op_sub (pe_c O_law_random hr (pa_cons (pv 0) (pa_cons pe_int pa_nil))) pe_int) pa_nil)))) pa_nil))))))
      (pss_one (ps_ret (pe_tup (pa_cons (pv 3) (pa_cons (pv 4) pa_nil))))))), ?_⟩
    refine ⟨_, rfl, _, rfl, g, m, B, rfl, hg, by omega, hm0, by omega, fun H1 r e1 g1 hr => ⟨_, _, rfl, rfl, Nat.zero_le _, fun F hF => ⟨vN (r + 1), .ref F, congrArg (fun x => [x, V.ref F]) (congrArg V.int (by omega)), ?_⟩⟩⟩
    have hR : r + 1 ≤ m := hr
    have hR1 : 1 ≤ r + 1 := by omega
    generalize r + 1 = R at hR hR1 ⊢
    have nF := g1.ne hF
    have hF0 : H F = none := hid_free (hid_eqS e1) nF hF
    refine ⟨_, rfl, _, rfl, g, d, B + 1, rfl, g1.put nF, by omega, hd0, by omega, fun H2 r2 e2 g2 hr2 => ⟨_, _, rfl, rfl, _, rfl, ge62 (by omega), li62 (by omega), ?_⟩⟩
    have s2 : Same (hid g H) (hid g H2) := (hid_eqS e1).trans ((hid_new hF).trans (hid_eqS e2))
    have e2F : H2 F = some (.lst []) := by rw [hid_get e2 nF]; exact upd_same
    refine for_range (fun i σ H' => Same (hid g H) (hid g H') ∧ Gn H' g (B + 2 + i * 25) ∧ ∃ (o5 o6 : Option V) (xs : List V) (ds : List Dr), σ = [some (.ref g), some (vN m), some (vN d), some (vN R), some (.ref F), o5, o6] ∧ H' F = some (.lst xs) ∧ DpAll K (hid F (hid g H')) xs (ds.map Dr.data) ∧ ds.length = i ∧ ∀ x ∈ ds, DrOk R x)
      ⟨s2, g2.mono (by omega), none, none, [], [], rfl, e2F, .nil, rfl, fun x hx => by simp at hx⟩ ?_ ?_
    · rintro i σ H3 hi ⟨s3, g3, o5, o6, xs, ds, rfl, e3, hxs, hdl, hds⟩
      refine ⟨_, rfl, _, rfl, (by show 2 ≤ sizeLine; decide), fun T hT => ?_⟩
      have nT := g3.ne hT
      refine ⟨_, rfl, g, 2, _, rfl, g3.put nT, by omega, by omega, by omega, fun H4 r4 e4 g4 hr4 => ?_⟩
      have e4T : H4 T = some (.lst [.int 2, .int 3]) := by rw [hid_get e4 nT]; exact upd_same
      have hat : ([V.int 2, V.int 3] : List V)[r4]? = some (vN (2 + r4)) := by
        rcases r4 with _ | _ | r4
        · rfl
        · rfl
        · omega
      have s4 : Same (hid g H3) (hid g H4) := (hid_new hT).trans (hid_eqS e4)
      refine ⟨T, _, _, _, rfl, rfl, .inl (.inl e4T), ixn rfl hat, g, R, 2 + r4, _, rfl, g4, by omega, by omega, by omega, by omega, fun H5 p l s5 g5 hp e5 hl => ?_⟩
      have s5' := s4.trans s5
      have e5F := hid_some s5' nF e3
      have npF : p ≠ F := fun z => by
        have := hid_some s4 nF e3
        rw [z, this] at hp
        cases hp
      have npg : p ≠ g := g4.ne hp
      refine ⟨_, rfl, .inl ⟨rfl, _, .inl (.inl e5F)⟩, _, rfl, _, rfl, _, rfl, g, R, _, rfl, g5, by omega, by omega, by omega, fun H6 r6 e6 g6 hr6 => ?_⟩
      refine ⟨_, rfl, g, 3, _, rfl, g6, by omega, by omega, by omega, fun H7 r7 e7 g7 hr7 => ?_⟩
      refine ⟨_, _, rfl, rfl, (by show 3 ≤ sizeLine; decide), fun U hU => ?_⟩
      have s7 : Same (hid g H5) (hid g H7) := (hid_eqS e6).trans (hid_eqS e7)
      have e7F := hid_some s7 nF e5F
      have e7p := hid_some s7 npg e5
      have nU := g7.ne hU
      have nUF := ne_some e7F hU
      have nUp := ne_some e7p hU
      refine ⟨F, xs, _, rfl, rfl, by rw [upd_ne nUF.symm]; exact e7F, ?_, ?_⟩
      · have := dpAll_len hxs
        rw [List.length_map] at this
        exact small100 (by omega)
      have sf := s3.trans (s5'.trans (s7.trans (hid_new (o := .tup [.ref p, vN r6, .int ((r7 : Int) - 1)]) hU)))
      refine ⟨hid_put sf hF0, ((g7.put nU).put nF).mono ?_, _, _, _, ds ++ [⟨l, r6, (r7 : Int) - 1⟩], rfl, upd_same, ?_, by rw [List.length_append, hdl]; rfl, ?_⟩
      · omega
      · rw [hid_upd_ne nF, hid_upd, List.map_append]
        refine dpAll_snoc (dpAll_mono (hid_mono (s5'.trans (s7.trans (hid_new hU)))) hxs) (.tup (xs := [.ref p, vN r6, .int ((r7 : Int) - 1)]) (.inl (.inl ?_)) (.cons (dp_lN_mk (.inl (.inl ?_))) (.cons (.int _) (.cons (.int _) .nil))))
        · rw [hid_ne nUF, hid_ne nU]
          exact upd_same
        · rw [hid_ne npF, hid_ne npg, upd_ne nUp.symm]
          exact e7p
      · intro x hx
        rw [List.mem_append, List.mem_singleton] at hx
        rcases hx with hx | rfl
        · exact hds x hx
        · exact ⟨hl, hr6, by show (r7 : Int) - 1 = -1 ∨ (r7 : Int) - 1 = 0 ∨ (r7 : Int) - 1 = 1; omega⟩
    · rintro σ H3 ⟨s3, g3, o5, o6, xs, ds, rfl, e3, hxs, hdl, hds⟩
      refine ⟨_, rfl, _, rfl, (by show 2 ≤ sizeLine; decide), fun T hT => ?_⟩
      have nT := g3.ne hT
      have nTF := ne_some e3 hT
      refine q _ _ R ds (s3.trans (hid_new hT)) ((g3.put nT).mono ?_) (.tup (xs := [vN R, .ref F]) (.inl (.inl ?_)) (.cons (.int _) (.cons (.lst (.inl (.inl ?_)) (dpAll_mono ((hid_same _ _).trans (hid_new hT)) hxs)) .nil))) hR1 hR hds (by omega)
      · omega
      · rw [hid_ne nT]
        exact upd_same
      · rw [hid_ne nF, upd_ne nTF.symm]
        exact e3
end
end K30

/-! #### K -/
namespace K30
open PySem PySem.Spec PyProof.Rows L2
theorem goal_ne {p r M : Nat} (hp : p < M) (hr : r < M - 1) : (p + 1 + r) % M ≠ p := by
  by_cases h : p + 1 + r < M
  · rw [Nat.mod_eq_of_lt h]
    omega
  · rw [Nat.mod_eq_sub_mod (by omega), Nat.mod_eq_of_lt (by omega)]
    omega
theorem house_dp {K : PySem.W.Frag} {g T D S : Addr} {H : Hp} {lv : V} {xs ss : List V} {R : Nat} {ds : List Dr} {ps : List (List Nat)} {sts : List Stp} (hT : H T = none) (nT : T ≠ g) (hlv : Dp K (hid g H) lv (levelD R ds)) (nD : D ≠ g) (nS : S ≠ g)
    (eD : H D = some (.lst xs)) (hxs : DpAll K (hid g H) xs (ps.map lN)) (eS : H S = some (.lst ss)) (hss : DpAll K (hid g H) ss (sts.map Stp.data)) : Dp K (hid g (upd H T (.tup [lv, .ref D, .ref S]))) (.ref T) (Hs.data ⟨R, ds, ps, sts⟩) := by
  have s := hid_new (g := g) (o := .tup [lv, .ref D, .ref S]) hT
  refine .tup (xs := [lv, .ref D, .ref S]) (.inl (.inl ?_)) (.cons (dp_mono s hlv) (.cons (.lst (xs := xs) (.inl (.inl ?_)) (dpAll_mono s hxs)) (.cons (.lst (xs := ss) (.inl (.inl ?_)) (dpAll_mono s hss)) .nil)))
  · rw [hid_ne nT]
    exact upd_same
  · rw [hid_ne nD, upd_ne (ne_some eD hT).symm]
    exact eD
  · rw [hid_ne nS, upd_ne (ne_some eS hT).symm]
    exact eS
section
variable {P : Program} {w : World} {K : PySem.W.Frag} {mg : Str → Option Value} {base : Heap}
def sp_law_house (K : PySem.W.Frag) : Sp := fun vs H Q _ => ∃ (g : Addr) (m n B : Nat), vs = [.ref g, vN m, vN n] ∧ Gn H g B ∧ B ≤ 1000000 ∧ 0 < m ∧ m ≤ 20 ∧ 0 < n ∧ n ≤ 20 ∧
  ∀ H' v h, Same (hid g H) (hid g H') → Gn H' g (B + 10000) → Dp K (hid g H') v h.data → HsOk h → h.rooms ≤ m → h.plates.length ≤ n → h.doors.length ≤ 5 → h.steps.length ≤ 2 * n → Q v H'
theorem sc_law_house : FnScope ["_law_generator_here", "_law_most", "_law_places", "_law_level_here", "_law_many", "_law_place", "_law_plates", "_law_steps", "_law_turn", "_law_goal"] ["_law_generator_here", "_law_most", "_law_places"] (defScope s_law_house) := ⟨rfl, rfl, rfl, by decide +kernel, rfl, by decide +kernel, by decide +kernel⟩
theorem ok_law_house (c : Cf K mg) (O_law_random : Ok P w K mg base 2 "_law_random" ["_law_generator_here", "_law_bound"] (sp_law_random K)) (O_law_lights : Ok P w K mg base 3 "_law_lights" ["_law_generator_here", "_law_rooms", "_law_part"] (sp_law_lights K)) (O_law_level : Ok P w K mg base 4 "_law_level" ["_law_generator_here", "_law_most", "_law_doors"] (sp_law_level K)) : Ok P w K mg base 5 "_law_house" ["_law_generator_here", "_law_most", "_law_places"] (sp_law_house K) := by
  obtain ⟨fd, F⟩ := c.d.def_ 32 (d := d_law_house) rfl
  refine ⟨c.g_law_house, fd, ?_, FunD.bindsN F (fun _ _ _ _ _ _ us hl => match us, hl with | [_, _, _], _ => rfl), F.kp⟩
  refine okN F sc_law_house (fun vs H Q E h => ?_) (fun cdv A outer s H vs Q E hr h => ?_)
  · obtain ⟨g, m, n, B, rfl, _⟩ := h
    rfl
  · obtain ⟨g, m, n, B, rfl, hg, hB, hm0, hm, hn0, hn, q⟩ := h
    refine ⟨_, (pss_cons (ps_asg (pe_tup (pa_cons (pe_c O_law_level hr (pa_cons (pv 0) (pa_cons (pv 1) (pa_cons pe_int pa_nil)))) (pa_cons (pe_op op_add pe_int (pe_c O_law_random hr (pa_cons (pv 0) (pa_cons (pv 2) pa_nil)))) pa_nil))) (pg_tupK (K := K) (n := 2) rfl rfl (pgs_cons (pg_name (i := 3) sc_law_house.nd rfl (Or.inr rfl)) (pgs_cons (pg_name (i := 4) sc_law_house.nd rfl (Or.inl rfl)) pgs_nil))))
      (pss_cons (ps_setLc (i := 6) (own := [("_law_place", 5)]) (g := gName 5) (tt := tYes) (by rfl) sc_law_house.nd rfl rfl (sw_true rfl rfl rfl (by decide +kernel)) (pi_range1 (by rfl) c.n_range (pa_cons (pv 4) pa_nil)) (blkOk_by (own := [("_law_place", 5)]) (N := ["_law_generator_here", "_law_most", "_law_places", "_law_level_here", "_law_many", "_law_place", "_law_plates", "_law_steps", "_law_turn", "_law_goal"]) (sc := defScope s_law_house) (by decide +kernel)) (fun _ _ _ _ _ => (pg_name (i := 5) sc_law_house.nd rfl (Or.inl rfl))) (fun _ _ _ _ _ => pts_nil) (fun _ _ _ _ _ => (pe_c O_law_lights hr (pa_cons (pv 0) (pa_cons (pe_ix (ix_tupK (K := K) rfl) (pv 3) pe_int (fun _ _ => rfl)) (pa_cons pe_int pa_nil))))))
      (pss_cons (ps_set (i := 7) sc_law_house.nd rfl (Or.inl rfl) (pe_lst pa_nil))
      (pss_cons (ps_for PassesOwn.never rfl (pi_range1 (by rfl) c.n_range (pa_cons (pe_ifExp (pt_cmpR op_gt (pv 4) pe_int (nomark _)) (pe_c O_law_random hr (pa_cons (pv 0) (pa_cons (pe_op op_add (pe_op op_mul pe_int (pv 4)) pe_int) pa_nil))) pe_int) pa_nil)) (pg_name (i := 8) sc_law_house.nd rfl (Or.inl rfl)) (pss_cons (ps_set (i := 5) sc_law_house.nd rfl (Or.inl rfl) (pe_c O_law_random hr (pa_cons (pv 0) (pa_cons (pv 4) pa_nil))))
      (pss_cons (ps_set (i := 9) sc_law_house.nd rfl (Or.inl rfl) (pe_op op_mod (pe_callTy call_int1 (by rfl) c.n_int (by decide +kernel) (pa_cons (pe_op op_add (pe_op op_add (pv 5) pe_int) (pe_c O_law_random hr (pa_cons (pv 0) (pa_cons (pe_op op_sub (pv 4) pe_int) pa_nil)))) pa_nil)) (pv 4)))
      (pss_one (ps_expr (pe_bm PySem.F.plainAttrs_list PySem.F.slot_list_append PySem.F.type_list_append mt_append (pv 7) (pa_cons (pe_tup (pa_cons (pv 5) (pa_cons (pv 9) (pa_cons (pe_c O_law_lights hr (pa_cons (pv 0) (pa_cons (pe_ix (ix_tupK (K := K) rfl) (pv 3) pe_int (fun _ _ => rfl)) (pa_cons pe_int pa_nil)))) pa_nil)))) pa_nil)))))))
      (pss_one (ps_ret (pe_tup (pa_cons (pv 3) (pa_cons (pv 6) (pa_cons (pv 7) pa_nil)))))))))), ?_⟩
    refine ⟨_, rfl, _, rfl, g, m, 5, B, rfl, hg, by omega, hm0, hm, by omega, by omega, fun H1 lv R ds s1 g1 hlv hR1 hRm hds hdl => ⟨_, rfl, _, rfl, g, n, _, rfl, g1, by omega, hn0, by omega, fun H2 r e2 g2 hr => ⟨_, _, rfl, rfl, (by show 2 ≤ sizeLine; decide), fun T hT => ?_⟩⟩⟩
    have hM : V.int (1 + (r : Int)) = vN (r + 1) := congrArg V.int (by omega)
    have hMn : r + 1 ≤ n := hr
    have hM1 : 1 ≤ r + 1 := by omega
    generalize r + 1 = M at hM hMn hM1
    have nT := g2.ne hT
    have s2 : Same (hid g H1) (hid g (upd H2 T (.tup [lv, vN M]))) := (hid_eqS e2).trans (hid_new hT)
    refine ⟨T, [lv, vN M], rfl, .inl (.inl (upd_same.trans (congrArg (fun x => some (HO.tup [lv, x])) hM))), rfl, _, _, rfl, _, _, rfl, rfl, ?_⟩
    rw [show (upd H2 T (HO.tup [lv, (fun i j => V.int (i + j)) 1 ↑r])) = upd H2 T (.tup [lv, vN M]) from congrArg (fun x => upd H2 T (HO.tup [lv, x])) hM]
    have g2' : Gn (upd H2 T (.tup [lv, vN M])) g (B + 1001) := (g2.put nT).mono (by omega)
    generalize upd H2 T (.tup [lv, vN M]) = H3 at s2 g2' ⊢
    have hlv3 := dp_mono s2 hlv
    have s3 := s1.trans s2
    obtain ⟨pl, ql, xl, rfl, hpl, hql, hxl⟩ := dp_level hlv3
    -- plates
    refine ⟨_, rfl, _, rfl, ge62 (by omega), li62 (by omega), fun D hD => ?_⟩
    have nD := g2'.ne hD
    refine lc_range (fun i H' => Same (hid g H3) (hid g H') ∧ Gn H' g (B + 1001 + i * 20) ∧ ∃ (xs : List V) (ps : List (List Nat)), H' D = some (.lst xs) ∧ DpAll K (hid D (hid g H')) xs (ps.map lN) ∧ ps.length = i ∧ ∀ l ∈ ps, Lights R l)
      ⟨hid_new hD, (g2'.put nD).mono (by omega), [], [], upd_same, .nil, rfl, fun l hl => by simp at hl⟩ ?_ ?_
    · rintro i H4 hi ⟨s4, g4, xs, ps, e4, hxs, hpsl, hps⟩
      refine ⟨rfl, _, rfl, _, rfl, pl, _, _, _, rfl, rfl, same_seqT (s4.trans (hid_same _ _)) hpl, rfl, g, R, 2, _, rfl, g4, by omega, by omega, by omega, by omega, fun H5 p l s5 g5 hp e5 hl => ?_⟩
      have e5D := hid_some s5 nD e4
      have npD : p ≠ D := ne_some e4 hp
      have npg : p ≠ g := g4.ne hp
      have hxl := dpAll_len hxs
      rw [List.length_map] at hxl
      refine ⟨xs, e5D, small100 (by omega), hid_put (s4.trans s5) hD, (g5.put nD).mono (by omega), xs ++ [.ref p], ps ++ [l], upd_same, ?_, by rw [List.length_append, hpsl]; rfl, ?_⟩
      · rw [hid_upd_ne nD, hid_upd, List.map_append]
        refine dpAll_snoc (dpAll_mono (hid_mono s5) hxs) (dp_lN_mk (.inl (.inl ?_)))
        rw [hid_ne npD, hid_ne npg]
        exact e5
      · intro x hx
        rw [List.mem_append, List.mem_singleton] at hx
        rcases hx with hx | rfl
        · exact hps x hx
        · exact hl
    rintro H4 ⟨s4, g4, xs, ps, e4, hxs, hpsl, hps⟩
    have hpM : ps.length = M := by omega
    have hxs4 := dpAll_mono (hid_same _ _) hxs
    have g4' : Gn H4 g (B + 2000) := g4.mono (by omega)
    have hlv4 := dp_mono s4 hlv3
    have fin : ∀ sts : List Stp, sts.length ≤ 2 * M → (∀ s ∈ sts, StpOk R M s) → HsOk ⟨R, ds, ps, sts⟩ := fun sts h1 h2 => by
      refine ⟨hR1, by show R ≤ 100; omega, hds, by show ds.length ≤ 100; omega, hps, ?_, by show ps.length ≤ 100; omega, fun s hs => ?_, by show sts.length ≤ 100; omega⟩
      · intro e
        have e' : ps = [] := e
        rw [e'] at hpM
        simp at hpM
        omega
      · show StpOk R ps.length s
        rw [hpM]
        exact h2 s hs
    -- steps
    refine ⟨Nat.zero_le _, fun S hS => ?_⟩
    have nS := g4'.ne hS
    refine ⟨_, rfl, _, _, rfl, rfl, _, rfl, ite2 (fun hc => ?_) (fun hc => ?_)⟩
    · have hM2 : 1 < M := by have := of_decide_eq_true hc; omega
      have e2M : V.int (2 * (M : Int) + 1) = vN (2 * M + 1) := congrArg V.int (by omega)
      refine ⟨_, rfl, _, rfl, _, _, rfl, rfl, .inl ⟨by decide, by decide⟩, _, _, rfl, rfl, g, 2 * M + 1, _, congrArg (fun x => [V.ref g, x]) e2M, g4'.put nS, by omega, by omega, by omega, fun H5 r5 e5 g5 hr5 => ?_⟩
      have s5 : Same (hid g H4) (hid g H5) := (hid_new hS).trans (hid_eqS e5)
      have e5S : H5 S = some (.lst []) := by rw [hid_get e5 nS]; exact upd_same
      refine ⟨_, rfl, ge62 (by omega), li62 (by omega), ?_⟩
      refine for_range (fun i σ H' => Same (hid g H4) (hid g H') ∧ Gn H' g (B + 2001 + i * 30) ∧ ∃ (o5 o8 o9 : Option V) (ss : List V) (sts : List Stp), σ = [some (.ref g), some (vN m), some (vN n), some (.ref pl), some (vN M), o5, some (.ref D), some (.ref S), o8, o9] ∧ H' S = some (.lst ss) ∧ DpAll K (hid S (hid g H')) ss (sts.map Stp.data) ∧ sts.length = i ∧ ∀ x ∈ sts, StpOk R M x)
        ⟨s5, g5.mono (by omega), _, _, _, [], [], rfl, e5S, .nil, rfl, fun x hx => by simp at hx⟩ ?_ ?_
      · rintro i σ H6 hi ⟨s6, g6, o5, o8, o9, ss, sts, rfl, e6, hss, hsl, hst⟩
        refine ⟨_, rfl, _, rfl, g, M, _, rfl, g6, by omega, by omega, by omega, fun H7 r7 e7 g7 hr7 => ?_⟩
        have eM1 : V.int ((M : Int) - 1) = vN (M - 1) := congrArg V.int (by omega)
        refine ⟨_, rfl, _, _, rfl, rfl, _, rfl, _, rfl, _, _, rfl, rfl, g, M - 1, _, congrArg (fun x => [V.ref g, x]) eM1, g7, by omega, by omega, by omega, fun H8 r8 e8 g8 hr8 => ?_⟩
        refine ⟨_, _, rfl, rfl, .inl ⟨_, rfl, _, rfl, _, _, rfl, rfl, by omega, ?_⟩⟩
        have egl : ((r7 : Int) + 1 + (r8 : Int)) % (M : Int) = (((r7 + 1 + r8) % M : Nat) : Int) := by
          rw [Int.natCast_emod]
          rfl
        have hgl : (r7 + 1 + r8) % M < M := Nat.mod_lt _ (by omega)
        have hgn := goal_ne hr7 hr8
        have s8 : Same (hid g H6) (hid g H8) := (hid_eqS e7).trans (hid_eqS e8)
        have e8S := hid_some s8 nS e6
        have hpl8 := same_seqT ((s4.trans (s6.trans s8)).trans (hid_same g H8)) hpl
        refine ⟨_, rfl, .inl ⟨rfl, _, .inl (.inl e8S)⟩, _, rfl, _, rfl, _, rfl, _, rfl, pl, _, _, _, rfl, rfl, hpl8, rfl, g, R, 2, _, rfl, g8, by omega, by omega, by omega, by omega, fun H9 p l s9 g9 hp e9 hl => ?_⟩
        refine ⟨(by show 3 ≤ sizeLine; decide), fun U hU => ?_⟩
        have e9S := hid_some s9 nS e8S
        have npS : p ≠ S := ne_some e8S hp
        have npg : p ≠ g := g8.ne hp
        have nUS := ne_some e9S hU
        have nUp := ne_some e9 hU
        have nU := g9.ne hU
        have hxl := dpAll_len hss
        rw [List.length_map] at hxl
        refine ⟨S, ss, _, rfl, rfl, by rw [upd_ne nUS.symm]; exact e9S, small100 (by omega), ?_⟩
        have s10 := s8.trans (s9.trans (hid_new (o := .tup [vN r7, .int (((r7 : Int) + 1 + (r8 : Int)) % (M : Int)), .ref p]) hU))
        refine ⟨hid_put (s6.trans s10) hS, ((g9.put nU).put nS).mono (by omega), _, _, _, _, sts ++ [⟨r7, (r7 + 1 + r8) % M, l⟩], rfl, upd_same, ?_, by rw [List.length_append, hsl]; rfl, ?_⟩
        · rw [hid_upd_ne nS, hid_upd, List.map_append]
          refine dpAll_snoc (dpAll_mono (hid_mono s10) hss) (.tup (xs := [vN r7, vN ((r7 + 1 + r8) % M), .ref p]) (.inl (.inl ?_)) (.cons (.int _) (.cons (.int _) (.cons (dp_lN_mk (.inl (.inl ?_))) .nil))))
          · rw [hid_ne nUS, hid_ne nU]
            exact upd_same.trans (congrArg (fun x => some (HO.tup [vN r7, V.int x, V.ref p])) egl)
          · rw [hid_ne npS, hid_ne npg, upd_ne nUp.symm]
            exact e9
        · intro x hx
          rw [List.mem_append, List.mem_singleton] at hx
          rcases hx with hx | rfl
          · exact hst x hx
          · exact ⟨hr7, hgl, fun z => hgn z.symm, hl⟩
      · rintro σ H6 ⟨s6, g6, o5, o8, o9, ss, sts, rfl, e6, hss, hsl, hst⟩
        refine ⟨_, rfl, _, rfl, _, rfl, (by show 3 ≤ sizeLine; decide), fun T2 hT2 => ?_⟩
        have nT2 := g6.ne hT2
        exact q _ _ ⟨R, ds, ps, sts⟩ (s3.trans (s4.trans (s6.trans (hid_new hT2)))) ((g6.put nT2).mono (by omega)) (house_dp hT2 nT2 (dp_mono s6 hlv4) nD nS (hid_some s6 nD e4) (dpAll_mono s6 hxs4) e6 (dpAll_mono (hid_same _ _) hss)) (fin sts (by omega) hst) hRm (by show ps.length ≤ n; omega) hdl (by show sts.length ≤ 2 * n; omega)
    · refine ⟨_, rfl, ge62 (by omega), li62 (by omega), ?_⟩
      refine for_range (fun i σ H' => i = 0 ∧ H' = upd H4 S (.lst []) ∧ σ = [some (.ref g), some (vN m), some (vN n), some (.ref pl), some (vN M), none, some (.ref D), some (.ref S), none, none]) ⟨rfl, rfl, rfl⟩ (fun i σ H' hi _ => absurd hi (Nat.not_lt_zero _)) ?_
      rintro σ H6 ⟨_, rfl, rfl⟩
      refine ⟨_, rfl, _, rfl, _, rfl, (by show 3 ≤ sizeLine; decide), fun T2 hT2 => ?_⟩
      have g6 := g4'.put (o := .lst []) nS
      have s6 : Same (hid g H4) (hid g (upd H4 S (.lst []))) := hid_new hS
      have nT2 := g6.ne hT2
      exact q _ _ ⟨R, ds, ps, []⟩ (s3.trans (s4.trans (s6.trans (hid_new hT2)))) ((g6.put nT2).mono (by omega)) (house_dp hT2 nT2 (dp_mono s6 hlv4) nD nS (hid_some s6 nD e4) (dpAll_mono s6 hxs4) upd_same .nil) (fin [] (Nat.zero_le _) (fun s hs => by simp at hs)) hRm (by show ps.length ≤ n; omega) hdl (Nat.zero_le _)
end
end K30

/-! #### L -/
namespace K30
open PySem PySem.Spec PyProof.Rows L2
theorem flat_N (l : List Nat) : (l.map vN).all flatV = true := by
  rw [List.all_eq_true]
  intro x hx
  obtain ⟨n, _, rfl⟩ := List.mem_map.mp hx
  rfl
theorem inV_N (r : Nat) (l : List Nat) : inV (vN r) (l.map vN) = decide (r ∈ l) := by
  unfold inV
  rw [List.any_map]
  induction l with
  | nil => rfl
  | cons m l ih =>
    rw [List.any_cons, ih]
    have e : ((fun y => eqV y (vN r)) ∘ vN) m = decide (r = m) := by
      show decide ((m : Int) = (r : Int)) = decide (r = m)
      rw [decide_eq_decide]
      omega
    rw [e]
    by_cases h : r = m <;> simp [h]
theorem perm_N {ns : List Int} {l : List Nat} (h : ns.Perm (l.map fun n : Nat => (n : Int))) : ∃ l' : List Nat, ns.map V.int = l'.map vN ∧ l'.Perm l := by
  refine ⟨ns.map Int.toNat, ?_, ?_⟩
  · rw [List.map_map]
    refine List.map_congr_left fun x hx => ?_
    obtain ⟨n, _, rfl⟩ := List.mem_map.mp (h.mem_iff.mp hx)
    rfl
  · have := h.map Int.toNat
    rw [List.map_map] at this
    refine this.trans (List.Perm.of_eq ?_)
    refine (List.map_congr_left (g := id) fun x _ => ?_).trans (List.map_id _)
    exact Int.toNat_natCast x
theorem dpAll_set {K : PySem.W.Frag} {H : Hp} {x : V} {d : PyData} : ∀ {xs : List V} {ds : List PyData} {i : Nat}, DpAll K H xs ds → Dp K H x d → DpAll K H (xs.set i x) (ds.set i d)
  | _, _, _, .nil, _ => .nil
  | _, _, 0, .cons _ t, h => .cons h t
  | _, _, i + 1, .cons a t, h => .cons a (dpAll_set (i := i) t h)
theorem li62' {i : Int} (h : i ≤ 1000000) : i < 2 ^ 62 := Int.lt_of_le_of_lt h (by decide)
theorem eqv_none (l : List PyData) : PyData.eqv (.list l) (.list []) = l.isEmpty := eqv_nil l
theorem SoundL.small {ds : List Dr} {ps L : List (List Nat)} {R : Nat} (s : SoundL ds ps L) (hp : ∀ l ∈ ps, ∀ x ∈ l, x < R) (hd : ∀ d ∈ ds, d.room < R) {t : Nat} (ht : t < L.length) : (L.getD t []).length ≤ R := by
  have e0 : L.getD t [] = L[t] := by rw [List.getD_eq_getElem?_getD, List.getElem?_eq_getElem ht]; rfl
  rw [e0]
  refine nodup_length_le (s.nd _ (List.getElem_mem ht)) fun x hx => ?_
  have q : InL L t x := by unfold InL; rw [e0]; exact hx
  refine Lit.room (R := R) (fun t r ht hpr => ?_) hd (s.lit t x q)
  have e : ps.getD t [] = ps[t] := by rw [List.getD_eq_getElem?_getD, List.getElem?_eq_getElem ht]; rfl
  unfold InL at hpr
  rw [e] at hpr
  exact hp _ (List.getElem_mem ht) r hpr
theorem rows_at {L : List (List Nat)} {t : Nat} (ht : t < L.length) : (L.map lN)[t]? = some (lN (L.getD t [])) := by
  rw [List.getElem?_map, List.getD_eq_getElem?_getD, List.getElem?_eq_getElem ht]
  rfl
/-- one turn of the law's loop -/
structure Turning (ds : List Dr) (ps : List (List Nat)) (i : Nat) (m : Bool) (L : List (List Nat)) (kept : Prop) : Prop where
  s : SoundL ds ps L
  ge : total ps + i ≤ total L
  yes : m = true → total ps + i + 1 ≤ total L
  no : m = false → kept
section
variable {P : Program} {w : World} {K : PySem.W.Frag} {mg : Str → Option Value} {base : Heap}
/-- the rows found, within the heap -/
def Rows (K : PySem.W.Frag) (H : Hp) (F : Addr) (L : List (List Nat)) : Prop := ∃ xs, H F = some (.lst xs) ∧ DpAll K (hid F H) xs (L.map lN)
theorem Rows.mono {H H' : Hp} {F : Addr} {L : List (List Nat)} (h : Rows K H F L) (s : Same H H') : Rows K H' F L := by
  obtain ⟨xs, h1, h2⟩ := h
  exact ⟨xs, s _ _ h1, dpAll_mono (hid_mono s) h2⟩
theorem Rows.at {H : Hp} {F : Addr} {L : List (List Nat)} (h : Rows K H F L) {t : Nat} (ht : t < L.length) : ∃ xs f, H F = some (.lst xs) ∧ xs.length = L.length ∧ xs[t]? = some (.ref f) ∧ SqL K H f ((L.getD t []).map vN) := by
  obtain ⟨xs, h1, h2⟩ := h
  obtain ⟨x, h3, h4⟩ := dpAll_get h2 (rows_at ht)
  obtain ⟨f, rfl, hf⟩ := dp_lN h4
  have := dpAll_len h2
  rw [List.length_map] at this
  exact ⟨xs, f, h1, this, h3, (hid_same F H).seq hf⟩
def sp_law_light (K : PySem.W.Frag) : Sp := fun vs H Q _ => ∃ (v u : V) (R : Nat) (ds : List Dr) (ps : List (List Nat)), vs = [v, u] ∧ Dp K H v (levelD R ds) ∧ (∀ d ∈ ds, DrOk R d) ∧ ds.length ≤ 100 ∧ R ≤ 60 ∧ Dp K H u (walksD ps) ∧ ps.length ≤ 100 ∧ (∀ l ∈ ps, l.Nodup ∧ ∀ x ∈ l, x < R) ∧
  ∀ H' u' L, Same H H' → Dp K H' u' (walksD L) → L.length = ps.length → (∀ t r, InL L t r ↔ Lit ds (InL ps) ps.length t r) → Q u' H'
theorem sc_law_light : FnScope ["_law_level_here", "_law_presses", "_law_lights_here", "_law_found", "_law_turn", "_law_more", "_law_tick", "_law_needs", "_law_room", "_law_shift", "_law_goal", "_law_need"] ["_law_level_here", "_law_presses"] (defScope s_law_light) := ⟨rfl, rfl, rfl, by decide +kernel, rfl, by decide +kernel, by decide +kernel⟩
theorem ok_law_light (c : Cf K mg)  : Ok P w K mg base 1 "_law_light" ["_law_level_here", "_law_presses"] (sp_law_light K) := by
  obtain ⟨fd, F⟩ := c.d.def_ 31 (d := d_law_light) rfl
  refine ⟨c.g_law_light, fd, ?_, FunD.bindsN F (fun _ _ _ _ _ _ us hl => match us, hl with | [_, _], _ => rfl), F.kp⟩
  refine okN F sc_law_light (fun vs H Q E h => ?_) (fun cdv A outer s H vs Q E hr h => ?_)
  · obtain ⟨v, u, R, ds, ps, rfl, _⟩ := h
    rfl
  · obtain ⟨v, u, R, ds, ps, rfl, hv, hd, hdl, hR, hu, hpl, hp, q⟩ := h
    refine ⟨_, (pss_cons (ps_set (i := 3) sc_law_light.nd rfl (Or.inr rfl) (pe_lc (own := [("_law_lights_here", 2)]) (g := gName 2) (tt := tYes) (by rfl) sc_law_light.nd (pi_list (pv 1)) (blkOk_by (own := [("_law_lights_here", 2)]) (N := ["_law_level_here", "_law_presses", "_law_lights_here", "_law_found", "_law_turn", "_law_more", "_law_tick", "_law_needs", "_law_room", "_law_shift", "_law_goal", "_law_need"]) (sc := defScope s_law_light) (by decide +kernel)) (fun _ _ _ _ _ => (pg_name (i := 2) sc_law_light.nd rfl (Or.inl rfl))) (fun _ _ _ _ _ => pts_nil) (fun _ _ _ _ _ => (pe_callTy (call_listK (K := K) rfl) (by rfl) c.n_list (by decide +kernel) (pa_cons (pv 2) pa_nil)))))
      (pss_cons (ps_for PassesOwn.never rfl (pi_range1 (by rfl) c.n_range (pa_cons (pe_op op_add (pe_op op_mul (pe_ix (ix_tupK (K := K) rfl) (pv 0) pe_int (fun _ _ => rfl)) (pe_callB (call_lenK (K := K) rfl) (by rfl) c.n_len boot_len (pa_cons (pv 1) pa_nil))) pe_int) pa_nil)) (pg_name (i := 4) sc_law_light.nd rfl (Or.inl rfl)) (pss_cons (ps_set (i := 5) sc_law_light.nd rfl (Or.inl rfl) pe_bl)
      (pss_cons (ps_for PassesOwn.never rfl (pi_range1 (by rfl) c.n_range (pa_cons (pe_callB (call_lenK (K := K) rfl) (by rfl) c.n_len boot_len (pa_cons (pv 3) pa_nil)) pa_nil)) (pg_name (i := 6) sc_law_light.nd rfl (Or.inr rfl)) (pss_one (ps_for PassesOwn.never rfl (pi_list (pe_ix (ix_tupK (K := K) rfl) (pv 0) pe_int (fun _ _ => rfl))) (pg_tupK (K := K) (n := 3) rfl rfl (pgs_cons (pg_name (i := 7) sc_law_light.nd rfl (Or.inl rfl)) (pgs_cons (pg_name (i := 8) sc_law_light.nd rfl (Or.inl rfl)) (pgs_cons (pg_name (i := 9) sc_law_light.nd rfl (Or.inl rfl)) pgs_nil)))) (pss_cons (ps_set (i := 10) sc_law_light.nd rfl (Or.inl rfl) (pe_op op_add (pv 6) (pv 9)))
      (pss_one (ps_if (PW.pt (pw_and (pt_chain op_le op_lt pe_int (pv 10) (pe_callB (call_lenK (K := K) rfl) (by rfl) c.n_len boot_len (pa_cons (pv 3) pa_nil))) (pw_and1 (pt_cmpR (op_notInK (K := K) rfl) (pv 8) (pe_ix (ix_listK (K := K) rfl) (pv 3) (pv 10) (fun _ _ => rfl)) (by with_unfolding_all rfl))))) (pss_one (ps_if (pt_cmpR (op_eqDK (K := K) rfl hr.units) (pe_lc (own := [("_law_need", 11)]) (g := gName 11) (by rfl) sc_law_light.nd (pi_list (pv 7)) (blkOk_by (own := [("_law_need", 11)]) (N := ["_law_level_here", "_law_presses", "_law_lights_here", "_law_found", "_law_turn", "_law_more", "_law_tick", "_law_needs", "_law_room", "_law_shift", "_law_goal", "_law_need"]) (sc := defScope s_law_light) (by decide +kernel)) (fun _ _ _ _ _ => (pg_name (i := 11) sc_law_light.nd rfl (Or.inl rfl))) (fun _ _ _ _ _ => (pts_one (pt_cmpR (op_notInK (K := K) rfl) (pv 11) (pe_ix (ix_listK (K := K) rfl) (pv 3) (pv 6) (fun _ _ => rfl)) (by with_unfolding_all rfl)))) (fun _ _ _ _ _ => (pv 11))) (pe_lst pa_nil) (nomark _)) (pss_cons (ps_asg (pe_callB cr_sorted (by rfl) c.n_sorted (by decide +kernel) (pa_cons (pe_op (op_catS (K := K) rfl) (pe_ix (ix_listK (K := K) rfl) (pv 3) (pv 10) (fun _ _ => rfl)) (pe_lst (pa_cons (pv 8) pa_nil))) pa_nil)) (pg_sub (pv 3) (pv 10) set_list))
      (pss_one (ps_set (i := 5) sc_law_light.nd rfl (Or.inl rfl) pe_bl))) pss_nil)) pss_nil))))))
      (pss_one (ps_if (pt_not (pt_val (pv 5))) (pss_one ps_break) pss_nil)))))
      (pss_one (ps_ret (pv 3))))), ?_⟩
    obtain ⟨pv', pq, px, rfl, hpv, hpq, hpx⟩ := dp_level hv
    obtain ⟨a, xs, rfl, ha, hx⟩ := dp_list hu
    have hxl : xs.length = ps.length := by rw [dpAll_len hx, List.length_map]
    have hdlp : px.length = ds.length := by rw [dpAll_len hpx, List.length_map]
    have hroom : ∀ d ∈ ds, d.room < R := fun d h => (hd d h).room
    have hprm : ∀ l ∈ ps, ∀ x ∈ l, x < R := fun l h => (hp l h).2
    refine ⟨_, rfl, a, rfl, ⟨_, ha⟩, fun F hF => ?_⟩
    have nFl : ∀ {H' : Hp}, Same H H' → H' F = none → H F = none := fun _ _ => hF
    refine lc_list (xs := xs) (fun i H' => Same H H' ∧ ∃ ys, H' F = some (.lst ys) ∧ DpAll K (hid F H') ys ((ps.take i).map lN)) ⟨same_upd hF, [], upd_same, .nil⟩ (fun i H' _ p => p.1.seq ha) ?_ ?_
    · rintro i x H2 hi ⟨s2, ys, e2, hys⟩
      obtain ⟨e, he, hxe⟩ := dpAll_at hx hi
      obtain ⟨l, hl, rfl⟩ := map_get he
      obtain ⟨n, rfl, hn⟩ := dp_lN hxe
      have hil := (List.getElem?_eq_some_iff.mp hl).1
      refine ⟨rfl, _, rfl, n, _, rfl, .inl (s2.seq hn), fun c hc => ?_⟩
      have nc := ne_some e2 hc
      have hyl := dpAll_len hys
      rw [List.length_map, List.length_take] at hyl
      refine ⟨ys, by rw [upd_ne nc.symm]; exact e2, small100 (by omega), same_put (s2.trans (same_upd hc)) hF, _, upd_same, ?_⟩
      rw [hid_upd, take_snoc hl]
      refine dpAll_snoc (dpAll_mono (hid_mono (same_upd hc)) hys) (dp_lN_mk (.inl (.inl ?_)))
      rw [hid_ne nc]
      exact upd_same
    rintro H2 ⟨s2, ys, e2, hys⟩
    rw [hxl, take_all] at hys
    have hr2 : Rows K H2 F ps := ⟨ys, e2, hys⟩
    have sa2 := s2.seq ha
    refine ⟨_, rfl, pv', _, _, _, rfl, rfl, same_seqT s2 hpv, rfl, _, rfl, a, _, rfl, .inl sa2, _, _, rfl, rfl, .inl ⟨by omega, by omega⟩, _, _, rfl, rfl, _, rfl, ?_⟩
    have hmul : (R : Int) * ((xs.length : Nat) : Int) = ((R * ps.length : Nat) : Int) := by rw [hxl, Int.natCast_mul]
    have hmb : R * ps.length ≤ 60 * 100 := Nat.mul_le_mul hR hpl
    refine ⟨?_, ?_, ?_⟩
    · show -(2 ^ 62) ≤ (R : Int) * ((xs.length : Nat) : Int) + 1
      rw [hmul]
      exact ge62 (by omega)
    · show (R : Int) * ((xs.length : Nat) : Int) + 1 < 2 ^ 62
      rw [hmul]
      exact li62' (by omega)
    have hst : Turning ds ps 0 false ps True := ⟨.start fun l h => (hp l h).1, Nat.le_refl _, fun z => (Bool.false_ne_true z).elim, fun _ => trivial⟩
    have htt : ((R : Int) * ((xs.length : Nat) : Int) + 1).toNat = R * ps.length + 1 := by
      rw [hmul]
      omega
    have fin : ∀ (H' : Hp) (L : List (List Nat)), Same H H' → SoundL ds ps L → Rows K H' F L → (∀ t, t < L.length → ∀ d ∈ ds, Kept L t d) → Q (.ref F) H' := fun H' L s' sl ⟨zs, e', hz⟩ hk =>
      q H' _ L s' (.lst (.inl (.inl e')) (dpAll_mono (hid_same _ _) hz)) sl.len (sl.done hk)
    refine for_range (fun i σ H' => Same H H' ∧ ∃ (o4 o5 o6 o7 o8 o9 o10 : Option V) (L : List (List Nat)), σ = [some (.ref pv'), some (.ref a), none, some (.ref F), o4, o5, o6, o7, o8, o9, o10, none] ∧ Rows K H' F L ∧ SoundL ds ps L ∧ total ps + i ≤ total L) ⟨s2, none, none, none, none, none, none, none, ps, rfl, hr2, hst.s, Nat.le_refl _⟩ ?_ ?_
    · rintro i σ H3 hi ⟨s3, o4, o5, o6, o7, o8, o9, o10, L, rfl, r3, sl3, hge⟩
      obtain ⟨zs3, e3, hz3⟩ := id r3
      have hzl3 : zs3.length = ps.length := by rw [dpAll_len hz3, List.length_map, sl3.len]
      refine ⟨_, rfl, F, _, rfl, .inl (.inl (.inl e3)), _, rfl, ge62 (by omega), li62 (by omega), ?_⟩
      refine for_range (fun j σ H' => Same H H' ∧ ∃ (o4 o6 o7 o8 o9 o10 : Option V) (m : Bool) (L : List (List Nat)), σ = [some (.ref pv'), some (.ref a), none, some (.ref F), o4, some (.bl m), o6, o7, o8, o9, o10, none] ∧ Rows K H' F L ∧ Turning ds ps i m L (∀ t, t < j → ∀ d ∈ ds, Kept L t d))
        ⟨s3, _, _, _, _, _, _, false, L, rfl, r3, sl3, hge, fun z => (Bool.false_ne_true z).elim, fun _ t ht => by omega⟩ ?_ ?_
      · rintro j σ H4 hj ⟨s4, o4, o6, o7, o8, o9, o10, m, L, rfl, r4, T4⟩
        have ej : (0 : Int) + (j : Int) = ((j : Nat) : Int) := by omega
        rw [ej]
        have hjn : j < ps.length := by omega
        refine ⟨_, rfl, pv', _, _, _, rfl, rfl, same_seqT s4 hpv, rfl, pq, rfl, ⟨_, s4.seq hpq⟩, ?_⟩
        refine for_list (xs := px) (fun k σ H' => Same H H' ∧ ∃ (o4 o7 o8 o9 o10 : Option V) (m : Bool) (L : List (List Nat)), σ = [some (.ref pv'), some (.ref a), none, some (.ref F), o4, some (.bl m), some (vN j), o7, o8, o9, o10, none] ∧ Rows K H' F L ∧ Turning ds ps i m L ((∀ t, t < j → ∀ d ∈ ds, Kept L t d) ∧ ∀ d ∈ ds.take k, Kept L j d))
          ⟨s4, _, _, _, _, _, m, L, rfl, r4, T4.s, T4.ge, T4.yes, fun z => ⟨T4.no z, fun d h => by simp at h⟩⟩ (fun k σ H' _ p => p.1.seq hpq) ?_ ?_
        · rintro k x σ H5 hk ⟨s5, o4, o7, o8, o9, o10, m, L, rfl, r5, T5⟩
          obtain ⟨e, he, hxe⟩ := dpAll_at hpx hk
          obtain ⟨d, hdk, rfl⟩ := map_get he
          have hdm := List.mem_of_getElem? hdk
          have hdo := hd d hdm
          obtain ⟨T, n, rfl, hT, hn⟩ := dp_door hxe
          have hLl : L.length = ps.length := T5.s.len
          obtain ⟨ws, ej5, hws⟩ := id r5
          have hwl : ws.length = ps.length := by rw [dpAll_len hws, List.length_map, hLl]
          have skip : ∀ (H' : Hp) (o10' : Option V), Same H5 H' → Kept L j d → Same H H' ∧ ∃ (q4 q7 q8 q9 q10 : Option V) (m1 : Bool) (L1 : List (List Nat)), [some (.ref pv'), some (.ref a), none, some (.ref F), o4, some (.bl m), some (vN j), some (.ref n), some (vN d.room), some (.int d.shift), o10', none] = [some (.ref pv'), some (.ref a), none, some (.ref F), q4, some (.bl m1), some (vN j), q7, q8, q9, q10, none] ∧ Rows K H' F L1 ∧ Turning ds ps i m1 L1 ((∀ t, t < j → ∀ d ∈ ds, Kept L1 t d) ∧ ∀ d ∈ ds.take (k + 1), Kept L1 j d) := by
            intro H' o10' s' hk'
            refine ⟨s5.trans s', o4, _, _, _, _, m, L, rfl, r5.mono s', T5.s, T5.ge, T5.yes, fun z => ⟨(T5.no z).1, fun d' hd' => ?_⟩⟩
            rw [List.take_add_one, hdk] at hd'
            rcases List.mem_append.mp hd' with h | h
            · exact (T5.no z).2 d' h
            · rw [Option.toList_some, List.mem_singleton] at h
              rw [h]
              exact hk'
          refine ⟨T, _, rfl, same_seqT s5 hT, rfl, _, _, rfl, _, _, rfl, _, _, rfl, rfl, ?_⟩
          refine ⟨_, rfl, _, rfl, _, _, rfl, rfl, ?_⟩
          refine ⟨_, rfl, _, _, rfl, rfl, _, rfl, ?_⟩
          by_cases h0 : 0 ≤ (j : Int) + d.shift
          rotate_left
          · exact itN (decide_eq_false h0) ⟨_, rfl, iteF (iteF (skip H5 _ (Same.refl _) fun u' hu' e' => by omega))⟩
          refine itP (decide_eq_true h0) ⟨_, rfl, F, _, rfl, .inl (.inl (.inl ej5)), _, _, rfl, rfl, _, rfl, ?_⟩
          by_cases h1 : (j : Int) + d.shift < ws.length
          rotate_left
          · exact itN (decide_eq_false h1) (iteF (skip H5 _ (Same.refl _) fun u' hu' e' => by omega))
          refine itP (decide_eq_true h1) ?_
          obtain ⟨y, hy⟩ : ∃ y : Nat, (j : Int) + d.shift = (y : Int) := ⟨((j : Int) + d.shift).toNat, by omega⟩
          have hyl : y < L.length := by omega
          have hjl : j < L.length := by omega
          obtain ⟨ws', fy, ey, hwsl, hwy, hfy⟩ := r5.at hyl
          obtain ⟨ws2, fj, ej2, _, hwj, hfj⟩ := r5.at hjl
          rw [ej5] at ey ej2
          cases ey
          cases ej2
          have sqF : SqL K H5 F ws := .inl (.inl ej5)
          refine ⟨_, rfl, _, rfl, _, rfl, F, _, _, _, rfl, rfl, sqF, ixn hy hwy, fy, _, rfl, .inl hfy, rfl, flat_N _, _, rfl, ?_⟩
          by_cases hin : d.room ∈ L.getD y []
          · refine itN (by show (!inV (vN d.room) ((L.getD y []).map vN)) = false; rw [inV_N, decide_eq_true hin]; rfl) (skip H5 _ (Same.refl _) fun u' hu' e' _ => ?_)
            have : u' = y := by omega
            rw [this]
            exact hin
          refine itP (by show (!inV (vN d.room) ((L.getD y []).map vN)) = true; rw [inV_N, decide_eq_false hin]; rfl) ?_
          have hn5 := s5.seq hn
          refine ⟨_, rfl, n, rfl, ⟨_, hn5⟩, fun D hD => ?_⟩
          refine lc_list (xs := d.needs.map vN) (fun i H' => Same H5 H' ∧ ∃ es : List Nat, H' D = some (.lst (es.map vN)) ∧ es.length ≤ i ∧ (es = [] ↔ ∀ x ∈ d.needs.take i, x ∈ L.getD j [])) ⟨same_upd hD, [], upd_same, Nat.le_refl _, by simp⟩ (fun i H' _ p => p.1.seq hn5) ?_ ?_
          · rintro i' x H6 hi' ⟨s6, es, e6, hel, hes⟩
            obtain ⟨r, hr, rfl⟩ := map_get hi'
            have hil := (List.getElem?_eq_some_iff.mp hr).1
            have hnl := hdo.needs.2.2
            refine ⟨rfl, _, rfl, _, rfl, _, rfl, F, _, _, _, rfl, rfl, s6.seq sqF, ixn rfl hwj, fj, _, rfl, .inl (s6.seq hfj), rfl, flat_N _, _, rfl, ?_⟩
            by_cases hrin : r ∈ L.getD j []
            · refine itN (by show (!inV (vN r) ((L.getD j []).map vN)) = false; rw [inV_N, decide_eq_true hrin]; rfl) ⟨s6, es, e6, by omega, ?_⟩
              rw [List.take_add_one, hr, hes]
              simp only [Option.toList_some, List.mem_append, List.mem_singleton]
              exact ⟨fun h x hx => hx.elim (h x) fun e => e ▸ hrin, fun h x hx => h x (.inl hx)⟩
            · refine itP (by show (!inV (vN r) ((L.getD j []).map vN)) = true; rw [inV_N, decide_eq_false hrin]; rfl) ⟨_, rfl, _, e6, by rw [List.length_map]; exact small100 (by omega), same_put s6 hD, es ++ [r], ?_, by rw [List.length_append]; exact Nat.succ_le_succ hel, ?_⟩
              · rw [upd_same, List.map_append]
                rfl
              · rw [List.take_add_one, hr]
                simp only [Option.toList_some, List.mem_append, List.mem_singleton]
                refine ⟨fun h => by simp at h, fun h => absurd (h r (.inr rfl)) hrin⟩
          rintro H6 ⟨s6, es, e6, hel, hes⟩
          rw [List.length_map, List.take_length] at hes
          refine ⟨Nat.zero_le _, fun p2 hp2 => ⟨lN es, .list [], dp_lN_mk (.inl (.inl (by rw [upd_ne (ne_some e6 hp2).symm]; exact e6))), nil_dp upd_same, (tame_lN es).shaped (by decide), by decide, _, rfl, ?_⟩⟩
          have s7 : Same H5 (upd H6 p2 (.lst [])) := s6.trans (same_upd hp2)
          generalize upd H6 p2 (.lst []) = H7 at s7 ⊢
          have eev : PyData.eqv (lN es) (.list []) = decide (es = []) := by
            unfold lN
            rw [eqv_none]
            cases es <;> rfl
          by_cases hall : es = []
          rotate_left
          · exact itN (eev.trans (decide_eq_false hall)) (skip H7 _ s7 fun u' hu' e' hx => absurd (hes.mpr hx) hall)
          refine itP (eev.trans (decide_eq_true hall)) ?_
          have hneed := hes.mp hall
          have r7 := r5.mono s7
          have sq7 := s7.seq sqF
          have hsm := T5.s.small hprm hroom hyl
          refine ⟨_, rfl, _, rfl, F, _, _, _, rfl, rfl, sq7, ixn hy hwy, _, rfl, (by show 1 ≤ sizeLine; decide), fun b hb => ?_⟩
          have s8 : Same H7 (upd H7 b (.lst [vN d.room])) := same_upd hb
          refine ⟨fy, b, _, _, rfl, rfl, (s7.trans s8).seq hfy, .inl (.inl upd_same), by rw [List.length_map]; exact le1000 (by show (L.getD y []).length + 1 ≤ 1000; omega), fun c hc => ?_⟩
          refine ⟨c, (L.getD y [] ++ [d.room]).map (fun n : Nat => (n : Int)), rfl, .inl (.inl (upd_same.trans (congrArg (fun z => some (HO.lst z)) (by rw [List.map_map, List.map_append] <;> rfl)))), by rw [List.length_map, List.length_append]; show (L.getD y []).length + 1 < 64; omega, fun ns p3 hperm hsort hp3 => ?_⟩
          obtain ⟨l', hl', hlp⟩ := perm_N hperm
          rw [hl']
          have s9 := (s7.trans s8).trans ((same_upd (o := .lst ((L.getD y []).map vN ++ [vN d.room])) hc).trans (same_upd (o := .lst (l'.map vN)) hp3))
          have e9 := s9 _ _ ej5
          have hne3 := ne_some ((s7.trans s8).trans (same_upd (o := .lst ((L.getD y []).map vN ++ [vN d.room])) hc) _ _ ej5) hp3
          refine ⟨_, rfl, _, rfl, F, _, _, y, rfl, congrArg V.int hy, e9, ixN_nat (by omega), ?_⟩
          refine ⟨same_put (s5.trans s9) hF, o4, _, _, _, _, true, L.set y l', rfl, ⟨_, upd_same, ?_⟩, T5.s.add hdm hjl hyl hy.symm hneed hin hlp, ?_, fun _ => ?_, fun z => (Bool.false_ne_true z.symm).elim⟩
          · rw [hid_upd, List.map_set]
            refine dpAll_set (dpAll_mono (hid_mono s9) hws) (dp_lN_mk (.inl (.inl ?_)))
            rw [hid_ne hne3]
            exact upd_same
          · have := total_set hyl (l := l') (by rw [hlp.length_eq, List.length_append]; rfl)
            have := T5.ge
            omega
          · have := total_set hyl (l := l') (by rw [hlp.length_eq, List.length_append]; rfl)
            have := T5.ge
            omega
        · rintro σ H5 ⟨s5, o4, o7, o8, o9, o10, m, L, rfl, r5, T5⟩
          refine ⟨s5, o4, _, _, _, _, _, m, L, rfl, r5, T5.s, T5.ge, T5.yes, fun z t ht d hd' => ?_⟩
          obtain ⟨h1, h2⟩ := T5.no z
          by_cases e : t = j
          · subst e
            refine h2 d ?_
            rw [hdlp, List.take_length]
            exact hd'
          · exact h1 t (by omega) d hd'
      · rintro σ H4 ⟨s4, o4, o6, o7, o8, o9, o10, m, L, rfl, r4, T4⟩
        refine ⟨_, rfl, _, rfl, ?_⟩
        cases m with
        | true => exact iteF ⟨s4, _, _, _, _, _, _, _, L, rfl, r4, T4.s, T4.yes rfl⟩
        | false =>
          refine iteT ⟨_, rfl, fin H4 L s4 T4.s r4 fun t ht => T4.no rfl t ?_⟩
          have := T4.s.len
          omega
    · rintro σ H3 ⟨s3, o4, o5, o6, o7, o8, o9, o10, L, rfl, r3, sl3, hge⟩
      exfalso
      have := sl3.total_le hprm hroom
      rw [htt, Nat.mul_comm R] at hge
      omega
end
end K30

/-! #### M -/
namespace K30
open PySem PySem.Spec PyProof.Rows L2
theorem nats_of {ns : List Int} {p : Nat → Prop} (h : ∀ k ∈ ns, ∃ n : Nat, k = (n : Int) ∧ p n) : ∃ ms : List Nat, ns.map V.int = ms.map vN ∧ ns = ms.map (fun n : Nat => (n : Int)) ∧ ∀ m ∈ ms, p m := by
  induction ns with
  | nil => exact ⟨[], rfl, rfl, fun m hm => by simp at hm⟩
  | cons k ns ih =>
    obtain ⟨ms, h1, h2, h3⟩ := ih fun k' hk' => h k' (List.mem_cons_of_mem _ hk')
    obtain ⟨n, rfl, hn⟩ := h k (List.mem_cons_self ..)
    refine ⟨n :: ms, by rw [List.map_cons, List.map_cons, h1], by rw [List.map_cons, h2], fun m hm => ?_⟩
    rcases List.mem_cons.mp hm with rfl | hm
    · exact hn
    · exact h3 m hm
theorem cast_N (l : List Nat) : (l.map fun n : Nat => (n : Int)).map V.int = l.map vN := by
  rw [List.map_map]
  rfl
theorem at_last {xs : List V} {v : V} (h : xs[xs.length - 1]? = some v) : atI xs (-1) = some v := by
  have hl := (List.getElem?_eq_some_iff.mp h).1
  unfold atI ixN
  rw [if_neg (by decide), if_pos (by omega), Option.bind_some, show ((-1 : Int) + (xs.length : Int)).toNat = xs.length - 1 by omega]
  exact h
theorem go_snoc {h : Hs} {w : List Nat} {l x : Nat} (hg : ∀ i a b, w[i]? = some a → w[i + 1]? = some b → a = b ∨ ∃ s ∈ h.steps, s.place = a ∧ s.goal = b) (hl : w[w.length - 1]? = some l) (hx : x = l ∨ ∃ s ∈ h.steps, s.place = l ∧ s.goal = x) :
    ∀ i a b, (w ++ [x])[i]? = some a → (w ++ [x])[i + 1]? = some b → a = b ∨ ∃ s ∈ h.steps, s.place = a ∧ s.goal = b := by
  intro i a b h1 h2
  have hi := (List.getElem?_eq_some_iff.mp h2).1
  rw [List.length_append, List.length_singleton] at hi
  have hw := (List.getElem?_eq_some_iff.mp hl).1
  rw [List.getElem?_append_left (by omega)] at h1
  by_cases e : i + 1 < w.length
  · rw [List.getElem?_append_left e] at h2
    exact hg i a b h1 h2
  · have ei : i = w.length - 1 := by omega
    subst ei
    rw [h1] at hl
    cases hl
    rw [List.getElem?_append_right (by omega), show w.length - 1 + 1 - w.length = 0 by omega] at h2
    cases h2
    exact hx.imp (fun e => e.symm) id
section
variable {P : Program} {w : World} {K : PySem.W.Frag} {mg : Str → Option Value} {base : Heap}
def sp_law_goals (K : PySem.W.Frag) : Sp := fun vs H Q _ => ∃ (v : V) (h : Hs) (a : Nat), vs = [v, vN a] ∧ Dp K H v h.data ∧ HsOk h ∧ h.steps.length ≤ 60 ∧
  ∀ H' p gs, Same H H' → H p = none → H' p = some (.lst (gs.map vN)) → gs ≠ [] → gs.length ≤ 100 → (∀ x ∈ gs, x = a ∨ ∃ s ∈ h.steps, s.place = a ∧ s.goal = x) → Q (.ref p) H'
theorem sc_law_goals : FnScope ["_law_house_here", "_law_place", "_law_step"] ["_law_house_here", "_law_place"] (defScope s_law_goals) := ⟨rfl, rfl, rfl, by decide +kernel, rfl, by decide +kernel, by decide +kernel⟩
theorem ok_law_goals (c : Cf K mg)  : Ok P w K mg base 1 "_law_goals" ["_law_house_here", "_law_place"] (sp_law_goals K) := by
  obtain ⟨fd, F⟩ := c.d.def_ 33 (d := d_law_goals) rfl
  refine ⟨c.g_law_goals, fd, ?_, FunD.bindsN F (fun _ _ _ _ _ _ us hl => match us, hl with | [_, _], _ => rfl), F.kp⟩
  refine okN F sc_law_goals (fun vs H Q E h => ?_) (fun cdv A outer s H vs Q E hr h => ?_)
  · obtain ⟨v, h, a, rfl, _⟩ := h
    rfl
  · obtain ⟨v, h, a, rfl, hv, hh, hsl, q⟩ := h
    refine ⟨_, (pss_one (ps_ret (pe_op (op_catS (K := K) rfl) (pe_lst (pa_cons (pv 1) pa_nil)) (pe_callB (cr_sortedSet rfl) (by rfl) c.n_sorted (by decide +kernel) (pa_cons (pe_callTy (cr_setOfI rfl) (by rfl) c.n_set (by decide +kernel) (pa_cons (pe_lc (own := [("_law_step", 2)]) (g := gName 2) (by rfl) sc_law_goals.nd (pi_list (pe_ix (ix_tupK (K := K) rfl) (pv 0) pe_int (fun _ _ => rfl))) (blkOk_by (own := [("_law_step", 2)]) (N := ["_law_house_here", "_law_place", "_law_step"]) (sc := defScope s_law_goals) (by decide +kernel)) (fun _ _ _ _ _ => (pg_name (i := 2) sc_law_goals.nd rfl (Or.inl rfl))) (fun _ _ _ _ _ => (pts_one (pt_cmpR op_eq (pe_ix (ix_tupK (K := K) rfl) (pv 2) pe_int (fun _ _ => rfl)) (pv 1) (nomark _)))) (fun _ _ _ _ _ => (pe_ix (ix_tupK (K := K) rfl) (pv 2) pe_int (fun _ _ => rfl)))) pa_nil)) pa_nil))))), ?_⟩
    obtain ⟨p, lv, ap, ps, bp, ss, rfl, hp, hlv, hap, hpa, hbp, hsb⟩ := dp_house hv
    refine ⟨_, rfl, (by show 1 ≤ sizeLine; decide), fun z hz => ?_⟩
    have s1 : Same H (upd H z (.lst [vN a])) := same_upd hz
    have e1 : (upd H z (.lst [vN a])) z = some (.lst [vN a]) := upd_same
    generalize upd H z (.lst [vN a]) = H1 at s1 e1 ⊢
    have hb1 := s1.seq hbp
    refine ⟨_, rfl, p, _, _, _, rfl, rfl, same_seqT s1 hp, rfl, bp, rfl, ⟨_, hb1⟩, fun D hD => ?_⟩
    refine lc_list (xs := ss) (fun i H' => Same H1 H' ∧ ∃ gs : List Nat, H' D = some (.lst (gs.map vN)) ∧ gs.length ≤ i ∧ ∀ x ∈ gs, ∃ s ∈ h.steps, s.place = a ∧ s.goal = x) ⟨same_upd hD, [], upd_same, Nat.le_refl _, fun x hx => by simp at hx⟩ (fun i H' _ p => p.1.seq hb1) ?_ ?_
    · rintro i x H2 hi ⟨s2, gs, e2, hgl, hgs⟩
      obtain ⟨e, he, hxe⟩ := dpAll_at hsb hi
      obtain ⟨s, hs, rfl⟩ := map_get he
      have hsm := List.mem_of_getElem? hs
      have hil := (List.getElem?_eq_some_iff.mp hs).1
      obtain ⟨T, n, rfl, hT, hn⟩ := dp_stp hxe
      have hT2 := same_seqT (s1.trans s2) hT
      refine ⟨rfl, _, rfl, T, _, _, _, rfl, rfl, hT2, rfl, _, rfl, rfl, _, rfl, ?_⟩
      by_cases hpl : s.place = a
      · refine itP (decide_eq_true (by rw [hpl])) ⟨_, rfl, T, _, _, _, rfl, rfl, hT2, rfl, _, e2, by rw [List.length_map]; exact small100 (by omega), same_put s2 hD, gs ++ [s.goal], ?_, by rw [List.length_append]; exact Nat.succ_le_succ hgl, fun x hx => ?_⟩
        · rw [upd_same, List.map_append]
          rfl
        · rw [List.mem_append, List.mem_singleton] at hx
          rcases hx with hx | rfl
          · exact hgs x hx
          · exact ⟨s, hsm, hpl, rfl⟩
      · exact itN (decide_eq_false fun e => hpl (by have := V.int.inj e; omega)) ⟨s2, gs, e2, by omega, hgs⟩
    rintro H2 ⟨s2, gs, e2, hgl, hgs⟩
    have hssl : ss.length = h.steps.length := by rw [dpAll_len hsb, List.length_map]
    refine ⟨D, gs.map (fun n : Nat => (n : Int)), rfl, .inl (.inl (by rw [cast_N]; exact e2)), by rw [List.length_map]; omega, fun S c hc hS => ?_⟩
    rw [List.length_map] at hc
    refine ⟨S, _, c, rfl, upd_same, by omega, fun ns p2 h1 h2 h3 hp2 => ?_⟩
    obtain ⟨ms, em, _, hms⟩ := nats_of (ns := ns) (p := fun n => n ∈ gs) fun k hk => by
      have := of_decide_eq_true ((h2 k).mp hk)
      obtain ⟨n, hn, rfl⟩ := List.mem_map.mp this
      exact ⟨n, rfl, hn⟩
    have eml : ms.length = ns.length := by
      have := congrArg List.length em
      rw [List.length_map, List.length_map] at this
      exact this.symm
    rw [em]
    have s3 := s2.trans (same_upd (o := SetO w S (fun j => decide (j ∈ gs.map (fun n : Nat => (n : Int)))) c) hS)
    have s4 := s3.trans (same_upd (o := .lst (ms.map vN)) hp2)
    refine ⟨z, p2, [vN a], ms.map vN, rfl, rfl, .inl (.inl (s4 _ _ e1)), .inl (.inl upd_same), by rw [List.length_map]; exact le1000 (by show 1 + ms.length ≤ 1000; omega), fun p3 hp3 => ?_⟩
    have s5 := s1.trans s4
    refine q _ p3 (a :: ms) (s5.trans (same_upd hp3)) (s5.free hp3) upd_same (by simp) (by rw [List.length_cons]; omega) fun x hx => ?_
    rcases List.mem_cons.mp hx with rfl | hx
    · exact .inl rfl
    · exact .inr (hgs x (hms x hx))
def sp_law_walk (K : PySem.W.Frag) : Sp := fun vs H Q _ => ∃ (g : Addr) (v : V) (h : Hs) (m B : Nat), vs = [.ref g, v, vN m] ∧ Gn H g B ∧ B ≤ 10000000 ∧ Dp K (hid g H) v h.data ∧ HsOk h ∧ h.steps.length ≤ 60 ∧ 0 < m ∧ m ≤ 50 ∧
  ∀ H' p w, Same (hid g H) (hid g H') → Gn H' g (B + 100) → H p = none → H' p = some (.lst (w.map vN)) → WalkOk h w → w.length ≤ m → Q (.ref p) H'
theorem sc_law_walk : FnScope ["_law_generator_here", "_law_house_here", "_law_most", "_law_found", "_law_turn", "_law_goals_here"] ["_law_generator_here", "_law_house_here", "_law_most"] (defScope s_law_walk) := ⟨rfl, rfl, rfl, by decide +kernel, rfl, by decide +kernel, by decide +kernel⟩
theorem ok_law_walk (c : Cf K mg) (O_law_random : Ok P w K mg base 2 "_law_random" ["_law_generator_here", "_law_bound"] (sp_law_random K)) (O_law_goals : Ok P w K mg base 1 "_law_goals" ["_law_house_here", "_law_place"] (sp_law_goals K)) : Ok P w K mg base 3 "_law_walk" ["_law_generator_here", "_law_house_here", "_law_most"] (sp_law_walk K) := by
  obtain ⟨fd, F⟩ := c.d.def_ 34 (d := d_law_walk) rfl
  refine ⟨c.g_law_walk, fd, ?_, FunD.bindsN F (fun _ _ _ _ _ _ us hl => match us, hl with | [_, _, _], _ => rfl), F.kp⟩
  refine okN F sc_law_walk (fun vs H Q E h => ?_) (fun cdv A outer s H vs Q E hr h => ?_)
  · obtain ⟨g, v, h, m, B, rfl, _⟩ := h
    rfl
  · obtain ⟨g, v, h, m, B, rfl, hg, hB, hv, hh, hsl, hm0, hm, q⟩ := h
    refine ⟨_, (pss_cons (ps_set (i := 3) sc_law_walk.nd rfl (Or.inl rfl) (pe_lst (pa_cons (pe_c O_law_random hr (pa_cons (pv 0) (pa_cons (pe_callB (call_lenK (K := K) rfl) (by rfl) c.n_len boot_len (pa_cons (pe_ix (ix_tupK (K := K) rfl) (pv 1) pe_int (fun _ _ => rfl)) pa_nil)) pa_nil))) pa_nil)))
      (pss_cons (ps_for PassesOwn.never rfl (pi_range1 (by rfl) c.n_range (pa_cons (pe_c O_law_random hr (pa_cons (pv 0) (pa_cons (pv 2) pa_nil))) pa_nil)) (pg_name (i := 4) sc_law_walk.nd rfl (Or.inl rfl)) (pss_cons (ps_set (i := 5) sc_law_walk.nd rfl (Or.inl rfl) (pe_c O_law_goals hr (pa_cons (pv 1) (pa_cons (pe_ix (ix_listK (K := K) rfl) (pv 3) (pe_un un_neg pe_int) (fun _ _ => rfl)) pa_nil))))
      (pss_one (ps_expr (pe_bm PySem.F.plainAttrs_list PySem.F.slot_list_append PySem.F.type_list_append mt_append (pv 3) (pa_cons (pe_ix (ix_listK (K := K) rfl) (pv 5) (pe_c O_law_random hr (pa_cons (pv 0) (pa_cons (pe_callB (call_lenK (K := K) rfl) (by rfl) c.n_len boot_len (pa_cons (pv 5) pa_nil)) pa_nil))) (fun _ _ => rfl)) pa_nil))))))
      (pss_one (ps_ret (pv 3))))), ?_⟩
    obtain ⟨p, lv, ap, ps, bp, ss, rfl, hp, hlv, hap, hpa, hbp, hsb⟩ := dp_house hv
    have hpl : ps.length = h.plates.length := by rw [dpAll_len hpa, List.length_map]
    have hpf := hh.pfew
    have hp0 : 0 < h.plates.length := List.length_pos_iff.mpr hh.some_
    refine ⟨_, rfl, _, rfl, p, _, _, _, rfl, rfl, same_seqT (hid_same _ _) hp, rfl, ap, _, rfl, .inl ((hid_same _ _).seq hap), g, ps.length, B, rfl, hg, by omega, by omega, by omega, fun H1 r e1 g1 hr => ⟨(by show 1 ≤ sizeLine; decide), fun F hF => ?_⟩⟩
    have nF := g1.ne hF
    have s1 : Same (hid g H) (hid g H1) := hid_eqS e1
    have hF0 : H F = none := hid_free s1 nF hF
    refine ⟨_, rfl, _, rfl, g, m, _, rfl, g1.put nF, by omega, hm0, by omega, fun H2 r2 e2 g2 hr2 => ⟨_, rfl, ge62 (by omega), li62 (by omega), ?_⟩⟩
    have e2F : H2 F = some (.lst [vN r]) := by rw [hid_get e2 nF]; exact upd_same
    refine for_range (fun i σ H' => Same (hid g H) (hid g H') ∧ Gn H' g (B + 2 + i) ∧ ∃ (o4 o5 : Option V) (z : List Nat), σ = [some (.ref g), some (.ref p), some (vN m), some (.ref F), o4, o5] ∧ H' F = some (.lst (z.map vN)) ∧ z.length = i + 1 ∧ (∀ x ∈ z, x < h.plates.length) ∧
      ∀ i a b, z[i]? = some a → z[i + 1]? = some b → a = b ∨ ∃ s ∈ h.steps, s.place = a ∧ s.goal = b) ⟨s1.trans ((hid_new hF).trans (hid_eqS e2)), g2, none, none, [r], rfl, e2F, rfl, fun x hx => ?_, fun i a b h1 h2 => by simp at h2⟩ ?_ ?_
    · rw [List.mem_singleton] at hx
      omega
    · rintro i σ H3 hi ⟨s3, g3, o4, o5, z, rfl, e3, hzl, hzp, hzg⟩
      have hlast : z[z.length - 1]? = some (z.getD (z.length - 1) 0) := getD_get (by omega)
      generalize z.getD (z.length - 1) 0 = l at hlast
      have hat : (z.map vN)[(z.map vN).length - 1]? = some (vN l) := by
        rw [List.length_map, List.getElem?_map, hlast]
        rfl
      refine ⟨_, rfl, _, rfl, 1, rfl, F, _, _, _, rfl, rfl, .inl (.inl e3), at_last hat, .ref p, h, l, rfl, dp_mono (s3.trans (hid_same _ _)) hv, hh, hsl, fun H4 b gs s4 hb e4 hne hgl hgs => ?_⟩
      have e4F := s4 _ _ e3
      have g4 := g3.same s4
      refine ⟨_, rfl, .inl ⟨rfl, _, .inl (.inl e4F)⟩, _, rfl, _, rfl, _, rfl, b, _, rfl, .inl (.inl (.inl e4)), g, gs.length, _, congrArg (fun n : Nat => [V.ref g, V.int (n : Int)]) (List.length_map _), g4, by omega, List.length_pos_iff.mpr hne, by omega, fun H5 r5 e5 g5 hr5 => ?_⟩
      have nb := g3.ne hb
      have e5b : H5 b = some (.lst (gs.map vN)) := by rw [hid_get e5 nb]; exact e4
      have e5F : H5 F = some (.lst (z.map vN)) := by rw [hid_get e5 nF]; exact e4F
      have hgm : gs.getD r5 0 ∈ gs := List.mem_of_getElem? (getD_get hr5)
      have hx := hgs _ hgm
      refine ⟨b, _, _, _, rfl, rfl, .inl (.inl e5b), ixn rfl (get_walk hr5), F, _, _, rfl, rfl, e5F, by rw [List.length_map]; exact small100 (by omega), ?_⟩
      refine ⟨hid_put (s3.trans ((hid_mono s4).trans (hid_eqS e5))) hF0, (g5.put nF).mono (by omega), _, _, z ++ [gs.getD r5 0], rfl, ?_, by rw [List.length_append, hzl]; rfl, fun x hx' => ?_, go_snoc hzg hlast hx⟩
      · rw [upd_same, List.map_append]
        rfl
      · rw [List.mem_append, List.mem_singleton] at hx'
        rcases hx' with hx' | rfl
        · exact hzp x hx'
        · rcases hx with e | ⟨s, hs, _, e⟩
          · rw [e]
            exact hzp l (List.mem_of_getElem? hlast)
          · rw [← e]
            exact (hh.steps s hs).goal
    · rintro σ H3 ⟨s3, g3, o4, o5, z, rfl, e3, hzl, hzp, hzg⟩
      exact ⟨_, rfl, q _ F z s3 (g3.mono (by omega)) hF0 e3 ⟨fun e => by rw [e] at hzl; simp at hzl, by omega, hzp, hzg⟩ (by omega)⟩
end
end K30

/-! #### N -/
namespace K30
open PySem PySem.Spec PyProof.Rows L2
theorem inL_replicate {n t r : Nat} : ¬ InL (List.replicate n []) t r := by
  unfold InL
  rw [List.getD_eq_getElem?_getD, List.getElem?_replicate]
  split <;> simp
section
variable {P : Program} {w : World} {K : PySem.W.Frag} {mg : Str → Option Value} {base : Heap}
def sp_law_pressed (K : PySem.W.Frag) : Sp := fun vs H Q _ => ∃ (v u : V) (h : Hs) (ws : List (List Nat)), vs = [v, u] ∧ Dp K H v h.data ∧ HsOk h ∧ h.rooms ≤ 30 ∧ Dp K H u (walksD ws) ∧ WalksOk h ws ∧
  ∀ H' u' ps, Same H H' → Dp K H' u' (walksD ps) → ps.length = ticks ws → (∀ t r, InL ps t r ↔ Prs h.plates ws t r) → (∀ l ∈ ps, l.Nodup ∧ ∀ x ∈ l, x < h.rooms) → Q u' H'
theorem sc_law_pressed : FnScope ["_law_house_here", "_law_walks", "_law_tick", "_law_walk_here", "_law_found", "_law_place"] ["_law_house_here", "_law_walks"] (defScope s_law_pressed) := ⟨rfl, rfl, rfl, by decide +kernel, rfl, by decide +kernel, by decide +kernel⟩
theorem ok_law_pressed (c : Cf K mg)  : Ok P w K mg base 1 "_law_pressed" ["_law_house_here", "_law_walks"] (sp_law_pressed K) := by
  obtain ⟨fd, F⟩ := c.d.def_ 35 (d := d_law_pressed) rfl
  refine ⟨c.g_law_pressed, fd, ?_, FunD.bindsN F (fun _ _ _ _ _ _ us hl => match us, hl with | [_, _], _ => rfl), F.kp⟩
  refine okN F sc_law_pressed (fun vs H Q E h => ?_) (fun cdv A outer s H vs Q E hr h => ?_)
  · obtain ⟨v, u, h, ws, rfl, _⟩ := h
    rfl
  · obtain ⟨v, u, h, ws, rfl, hv, hh, hR, hu, hw, q⟩ := h
    refine ⟨_, (pss_cons (ps_setLc (i := 4) (own := [("_law_tick", 2)]) (g := gName 2) (tt := tYes) (by rfl) sc_law_pressed.nd rfl rfl (sw_true rfl rfl rfl (by decide +kernel)) (pi_range1 (by rfl) c.n_range (pa_cons (pe_callB (cr_max rfl) (by rfl) c.n_max (by decide +kernel) (pa_cons (pe_op op_cat (pe_lst (pa_cons pe_int pa_nil)) (pe_lc (own := [("_law_walk_here", 3)]) (g := gName 3) (tt := tYes) (by rfl) sc_law_pressed.nd (pi_list (pv 1)) (blkOk_by (own := [("_law_walk_here", 3)]) (N := ["_law_house_here", "_law_walks", "_law_tick", "_law_walk_here", "_law_found", "_law_place"]) (sc := defScope s_law_pressed) (by decide +kernel)) (fun _ _ _ _ _ => (pg_name (i := 3) sc_law_pressed.nd rfl (Or.inl rfl))) (fun _ _ _ _ _ => pts_nil) (fun _ _ _ _ _ => (pe_callB (call_lenK (K := K) rfl) (by rfl) c.n_len boot_len (pa_cons (pv 3) pa_nil))))) pa_nil)) pa_nil)) (blkOk_by (own := [("_law_tick", 2)]) (N := ["_law_house_here", "_law_walks", "_law_tick", "_law_walk_here", "_law_found", "_law_place"]) (sc := defScope s_law_pressed) (by decide +kernel)) (fun _ _ _ _ _ => (pg_name (i := 2) sc_law_pressed.nd rfl (Or.inl rfl))) (fun _ _ _ _ _ => pts_nil) (fun _ _ _ _ _ => (pe_lst pa_nil)))
      (pss_cons (ps_for PassesOwn.never rfl (pi_list (pv 1)) (pg_name (i := 3) sc_law_pressed.nd rfl (Or.inl rfl)) (pss_one (ps_for PassesOwn.never rfl (pi_enum (by rfl) c.n_enumerate (pa_cons (pv 3) pa_nil)) (pg_tupK (K := K) (n := 2) rfl rfl (pgs_cons (pg_name (i := 2) sc_law_pressed.nd rfl (Or.inl rfl)) (pgs_cons (pg_name (i := 5) sc_law_pressed.nd rfl (Or.inl rfl)) pgs_nil))) (pss_one (ps_asg (pe_callB (cr_sortedSet rfl) (by rfl) c.n_sorted (by decide +kernel) (pa_cons (pe_callTy (cr_setOfI rfl) (by rfl) c.n_set (by decide +kernel) (pa_cons (pe_op (op_catS (K := K) rfl) (pe_ix (ix_listK (K := K) rfl) (pv 4) (pv 2) (fun _ _ => rfl)) (pe_ix (ix_listK (K := K) rfl) (pe_ix (ix_tupK (K := K) rfl) (pv 0) pe_int (fun _ _ => rfl)) (pv 5) (fun _ _ => rfl))) pa_nil)) pa_nil)) (pg_sub (pv 4) (pv 2) set_list))))))
      (pss_one (ps_ret (pv 4))))), ?_⟩
    obtain ⟨p, lv, ap, ps, bp, ss, rfl, hp, hlv, hap, hpa, hbp, hsb⟩ := dp_house hv
    obtain ⟨a, xs, rfl, ha, hx⟩ := dp_list hu
    have hxl : xs.length = ws.length := by rw [dpAll_len hx, List.length_map]
    have hwf := hw.2
    refine ⟨by decide, fun z1 hz1 => ?_⟩
    have s3 : Same H (upd H z1 (.lst [V.int 0])) := same_upd hz1
    have ez1 : (upd H z1 (.lst [V.int 0])) z1 = some (.lst [V.int 0]) := upd_same
    generalize upd H z1 (.lst [V.int 0]) = H3 at s3 ez1 ⊢
    have sa3 := s3.seq ha
    refine ⟨_, rfl, a, rfl, ⟨_, sa3⟩, fun D2 hD2 => ?_⟩
    refine lc_list (xs := xs) (fun i H' => Same H3 H' ∧ H' D2 = some (.lst (((ws.take i).map fun w => (w.length : Int)).map V.int))) ⟨same_upd hD2, upd_same⟩ (fun i H' _ p => p.1.seq sa3) ?_ ?_
    · rintro i x H4 hi ⟨s4, e4⟩
      obtain ⟨e, he, hxe⟩ := dpAll_at hx hi
      obtain ⟨z, hz, rfl⟩ := map_get he
      obtain ⟨n, rfl, hn⟩ := dp_lN hxe
      have hil := (List.getElem?_eq_some_iff.mp hz).1
      refine ⟨rfl, _, rfl, n, _, rfl, .inl ((s3.trans s4).seq hn), _, e4, by rw [List.length_map, List.length_map, List.length_take]; exact small100 (by omega), same_put s4 hD2, ?_⟩
      rw [upd_same, take_snoc hz, List.map_append, List.length_map]
      rfl
    rintro H4 ⟨s4, e4⟩
    rw [hxl, take_all] at e4
    refine ⟨z1, D2, _, _, rfl, rfl, s4 _ _ ez1, e4, by rw [List.length_singleton, List.length_map, List.length_map]; exact le1000 (by omega), fun z2 hz2 => ?_⟩
    refine ⟨z2, (0 : Int) :: ws.map (fun w => (w.length : Int)), rfl, .inl (.inl upd_same), by rw [List.length_cons]; omega, fun m hm1 hm2 => ?_⟩
    have hmt := max_ticks hm1 hm2
    subst hmt
    have htl : ticks ws ≤ 100 := ticks_le fun w hw' => (hw.1 w hw').few
    have s5 := s3.trans (s4.trans (same_upd (o := .lst ([V.int 0] ++ (ws.map fun w => (w.length : Int)).map V.int)) hz2))
    generalize (upd H4 z2 (.lst ([V.int 0] ++ (ws.map fun w => (w.length : Int)).map V.int))) = H5 at s5 ⊢
    refine ⟨_, rfl, ge62 (by omega), li62 (by omega), fun F hF => ?_⟩
    refine lc_range (fun i H' => Same H5 H' ∧ Rows K H' F (List.replicate i [])) ⟨same_upd hF, [], upd_same, .nil⟩ ?_ ?_
    · rintro i H6 hi ⟨s6, ys, e6, hys⟩
      have hyl := dpAll_len hys
      rw [List.length_map, List.length_replicate] at hyl
      refine ⟨rfl, Nat.zero_le _, fun c hc => ?_⟩
      have nc := ne_some e6 hc
      refine ⟨ys, by rw [upd_ne nc.symm]; exact e6, small100 (by omega), same_put (s6.trans (same_upd hc)) hF, _, upd_same, ?_⟩
      rw [hid_upd, List.replicate_succ', List.map_append]
      refine dpAll_snoc (dpAll_mono (hid_mono (same_upd hc)) hys) (dp_lN_mk (.inl (.inl ?_)))
      rw [hid_ne nc]
      exact upd_same
    rintro H6 ⟨s6, r6⟩
    have hF0 := s5.free hF
    have s6' := s5.trans s6
    have eN : ((ticks ws : Nat) : Int).toNat = ticks ws := Int.toNat_natCast _
    rw [eN] at r6
    refine ⟨_, rfl, a, rfl, ⟨_, s6'.seq ha⟩, for_list (xs := xs) (fun i σ H' => Same H H' ∧ ∃ (o2 o3 o5 : Option V) (L : List (List Nat)), σ = [some (.ref p), some (.ref a), o2, o3, some (.ref F), o5] ∧ Rows K H' F L ∧ L.length = ticks ws ∧ (∀ t r, InL L t r ↔ Prs h.plates (ws.take i) t r) ∧ ∀ l ∈ L, l.Nodup ∧ ∀ x ∈ l, x < h.rooms)
      ⟨s6', none, none, none, _, rfl, r6, List.length_replicate, fun t r => ⟨fun z => absurd z inL_replicate, fun z => by simp [Prs] at z⟩, fun l hl => ?_⟩ (fun i σ H' _ p => p.1.seq ha) ?_ ?_⟩
    · rw [List.eq_of_mem_replicate hl]
      exact ⟨.nil, fun x hx => by simp at hx⟩
    · rintro i x σ H7 hi ⟨s7, o2, o3, o5, L, rfl, r7, hLl, hL, hLn⟩
      obtain ⟨e, he, hxe⟩ := dpAll_at hx hi
      obtain ⟨z, hz, rfl⟩ := map_get he
      obtain ⟨n, rfl, hn⟩ := dp_lN hxe
      have hzw := hw.1 z (List.mem_of_getElem? hz)
      have hzt := le_ticks (List.mem_of_getElem? hz)
      refine ⟨_, rfl, n, _, rfl, s7.seq hn, for_it (walk_enum (xs := z.map vN)) (fun j σ H' => Same H H' ∧ ∃ (o2 o5 : Option V) (L : List (List Nat)), σ = [some (.ref p), some (.ref a), o2, some (.ref n), some (.ref F), o5] ∧ Rows K H' F L ∧ L.length = ticks ws ∧ (∀ t r, InL L t r ↔ LPress h.plates (ws.take i) z j t r) ∧ ∀ l ∈ L, l.Nodup ∧ ∀ x ∈ l, x < h.rooms)
        ⟨s7, o2, o5, L, rfl, r7, hLl, fun t r => (hL t r).trans lpress_zero.symm, hLn⟩ (fun j σ H' _ p => p.1.seq hn) ?_ ?_⟩
      · rintro j x σ H8 H9 hj ⟨s8, o2, o5, L, rfl, r8, hLl, hL, hLn⟩ ⟨T, x1, x2, rfl, hT, rfl, f1, f2⟩
        cases f1
        obtain ⟨pl, hpl', rfl⟩ := map_get f2
        have hjl := (List.getElem?_eq_some_iff.mp hpl').1
        have hplt := hzw.places pl (List.mem_of_getElem? hpl')
        have s9 : Same H8 (upd H8 T (.tup [.int (j : Nat), vN pl])) := same_upd hT
        have r9 := r8.mono s9
        have sA := s8.trans s9
        refine ⟨T, _, rfl, .inl (.inl upd_same), rfl, _, _, rfl, _, _, rfl, rfl, ?_⟩
        generalize upd H8 T (.tup [.int (j : Nat), vN pl]) = H9 at r9 sA ⊢
        have hjL : j < L.length := by omega
        obtain ⟨ys, f, e9, hyl, hyj, hf⟩ := r9.at hjL
        have hplr : (h.plates.map lN)[pl]? = some (lN (h.plates.getD pl [])) := rows_at hplt
        obtain ⟨x3, hx3, hd3⟩ := dpAll_get hpa hplr
        obtain ⟨pn, rfl, hpn⟩ := dp_lN hd3
        have hmem : h.plates.getD pl [] ∈ h.plates := List.mem_of_getElem? (by rw [List.getD_eq_getElem?_getD, List.getElem?_eq_getElem hplt]; rfl)
        have hpk := hh.plates _ hmem
        have hLm : L.getD j [] ∈ L := List.mem_of_getElem? (by rw [List.getD_eq_getElem?_getD, List.getElem?_eq_getElem hjL]; rfl)
        have hlk := hLn _ hLm
        have c1 := nodup_length_le hlk.1 hlk.2
        have hpnd : (h.plates.getD pl []).Nodup := hpk.1.imp fun h => Nat.ne_of_lt h
        have c2 := nodup_length_le hpnd hpk.2.1
        generalize hpr : h.plates.getD pl [] = pr at hpn hpk c2 hpnd hplr hd3 hmem
        generalize hrow : L.getD j [] = row at hf hlk c1
        refine ⟨_, rfl, _, rfl, F, _, _, _, rfl, rfl, .inl (.inl e9), ixn rfl hyj, _, rfl, p, _, _, _, rfl, rfl, same_seqT sA hp, rfl, _, rfl, ap, _, _, _, rfl, rfl, sA.seq hap, ixn rfl hx3, ?_⟩
        refine ⟨f, pn, _, _, rfl, rfl, hf, sA.seq hpn, by rw [List.length_map, List.length_map]; exact le1000 (by omega), fun c hc => ?_⟩
        have ec : row.map vN ++ pr.map vN = ((row ++ pr).map (fun n : Nat => (n : Int))).map V.int := by rw [cast_N, List.map_append]
        refine ⟨c, (row ++ pr).map (fun n : Nat => (n : Int)), rfl, .inl (.inl (upd_same.trans (congrArg (fun z => some (HO.lst z)) ec))), by rw [List.length_map, List.length_append]; omega, fun S k hk hS => ?_⟩
        rw [List.length_map, List.length_append] at hk
        refine ⟨S, _, k, rfl, upd_same, by omega, fun ns p3 h1 h2 h3 hp3 => ?_⟩
        obtain ⟨ms, em, en, hms⟩ := nats_of (ns := ns) (p := fun n => n ∈ row ++ pr) fun k hk => by
          have := of_decide_eq_true ((h2 k).mp hk)
          obtain ⟨n, hn, rfl⟩ := List.mem_map.mp this
          exact ⟨n, rfl, hn⟩
        have hmem2 : ∀ r : Nat, r ∈ ms ↔ r ∈ row ∨ r ∈ pr := fun r => by
          refine ⟨fun hr => List.mem_append.mp (hms r hr), fun hr => ?_⟩
          have k1 : (r : Int) ∈ ns := (h2 r).mpr (decide_eq_true (List.mem_map.mpr ⟨r, List.mem_append.mpr hr, rfl⟩))
          rw [en] at k1
          obtain ⟨r', hr', e⟩ := List.mem_map.mp k1
          have : r' = r := by omega
          exact this ▸ hr'
        have hnd : ms.Nodup := by
          rw [en, List.pairwise_map] at h1
          exact List.Pairwise.imp (S := fun a b : Nat => a ≠ b) (fun {a b : Nat} (hab : (a : Int) < (b : Int)) => (by omega : a ≠ b)) h1
        rw [em]
        have s10 := (same_upd (o := .lst (row.map vN ++ pr.map vN)) hc).trans ((same_upd (o := SetO w S (fun j => decide (j ∈ (row ++ pr).map (fun n : Nat => (n : Int)))) k) hS).trans (same_upd (o := .lst (ms.map vN)) hp3))
        have e10 := s10 _ _ e9
        have n3 : p3 ≠ F := ne_some (((same_upd (o := .lst (row.map vN ++ pr.map vN)) hc).trans (same_upd (o := SetO w S (fun j => decide (j ∈ (row ++ pr).map (fun n : Nat => (n : Int)))) k) hS)) _ _ e9) hp3
        refine ⟨_, rfl, _, rfl, F, _, _, j, rfl, rfl, e10, ixN_nat (by omega), ?_⟩
        obtain ⟨ys', e9', hd9⟩ := r9
        rw [e9] at e9'
        cases e9'
        refine ⟨same_put (sA.trans s10) hF0, some (vN j), some (vN pl), L.set j ms, rfl, ⟨_, upd_same, ?_⟩, by rw [List.length_set]; exact hLl, fun t r => ?_, fun l hl => ?_⟩
        · rw [hid_upd, List.map_set]
          refine dpAll_set (dpAll_mono (hid_mono s10) hd9) (dp_lN_mk (.inl (.inl ?_)))
          rw [hid_ne n3]
          exact upd_same
        · rw [inL_set hjL, lpress_succ hpl', hpr, ← hL t r]
          by_cases e : t = j
          · subst e
            rw [if_pos rfl, hmem2 r]
            unfold InL
            rw [hrow]
            simp
          · rw [if_neg e]
            simp [e]
        · rcases List.mem_or_eq_of_mem_set hl with hl | rfl
          · exact hLn l hl
          · exact ⟨hnd, fun x hx => ((hmem2 x).mp hx).elim (hlk.2 x) (hpk.2.1 x)⟩
      · rintro σ H8 ⟨s8, o2, o5, L, rfl, r8, hLl, hL, hLn⟩
        refine ⟨s8, o2, _, o5, L, rfl, r8, hLl, fun t r => ?_, hLn⟩
        rw [hL t r, List.length_map, lpress_full hz]
    · rintro σ H7 ⟨s7, o2, o3, o5, L, rfl, ⟨ys, e7, hys⟩, hLl, hL, hLn⟩
      refine ⟨_, rfl, q _ _ L s7 (.lst (.inl (.inl e7)) (dpAll_mono (hid_same _ _) hys)) hLl (fun t r => ?_) hLn⟩
      rw [hL t r, hxl, List.take_length]
end
end K30

/-! #### O -/
namespace K30
open PySem PySem.Spec PyProof.Rows L2
theorem dpAll_take {K : PySem.W.Frag} {H : Hp} : ∀ {xs : List V} {ds : List PyData} (n : Nat), DpAll K H xs ds → DpAll K H (xs.take n) (ds.take n)
  | _, _, 0, _ => .nil
  | _, _, _ + 1, .nil => .nil
  | _, _, n + 1, .cons a t => .cons a (dpAll_take n t)
/-- what lists of rooms open -/
theorem opens_list {h : Hs} {ws ps L : List (List Nat)} {m a b t : Nat} (hp : ∀ t r, InL ps t r ↔ Prs h.plates ws t r) (hm : m ≤ ps.length) (hl : ∀ t r, InL L t r ↔ Lit h.doors (InL (ps.take m)) (ps.take m).length t r) :
    (∃ s ∈ h.steps, s.place = a ∧ s.goal = b ∧ ∀ y ∈ s.needs, InL L t y) ↔ Opens h.doors (Prs h.plates ws) h.steps a b t m := by
  have e : (ps.take m).length = m := by rw [List.length_take]; omega
  have hb : ∀ t r, InL L t r ↔ Lit h.doors (Prs h.plates ws) m t r := fun t r => by
    rw [hl t r, e]
    refine Lit.congr fun t r ht => ?_
    rw [← hp t r]
    unfold InL
    rw [List.getD_eq_getElem?_getD, List.getD_eq_getElem?_getD, List.getElem?_take_of_lt ht]
  unfold Opens
  simp only [hb]
section
variable {P : Program} {w : World} {K : PySem.W.Frag} {mg : Str → Option Value} {base : Heap}
def sp_law_opens (K : PySem.W.Frag) : Sp := fun vs H Q _ => ∃ (v x u : V) (h : Hs) (z : List Nat) (t : Nat) (L : List (List Nat)), vs = [v, x, vN t, u] ∧ Dp K H v h.data ∧ HsOk h ∧ Dp K H x (lN z) ∧ t + 1 < z.length ∧ z.length ≤ 100 ∧ Dp K H u (walksD L) ∧ t < L.length ∧
  ∀ H' g, Same H H' → (g = true ↔ z.getD t 0 = z.getD (t + 1) 0 ∨ ∃ s ∈ h.steps, s.place = z.getD t 0 ∧ s.goal = z.getD (t + 1) 0 ∧ ∀ y ∈ s.needs, InL L t y) → Q (.bl g) H'
theorem sc_law_opens : FnScope ["_law_house_here", "_law_walk_here", "_law_tick", "_law_light_here", "_law_place", "_law_goal", "_law_needs", "_law_need"] ["_law_house_here", "_law_walk_here", "_law_tick", "_law_light_here"] (defScope s_law_opens) := ⟨rfl, rfl, rfl, by decide +kernel, rfl, by decide +kernel, by decide +kernel⟩
theorem ok_law_opens (c : Cf K mg)  : Ok P w K mg base 1 "_law_opens" ["_law_house_here", "_law_walk_here", "_law_tick", "_law_light_here"] (sp_law_opens K) := by
  obtain ⟨fd, F⟩ := c.d.def_ 36 (d := d_law_opens) rfl
  refine ⟨c.g_law_opens, fd, ?_, FunD.bindsN F (fun _ _ _ _ _ _ us hl => match us, hl with | [_, _, _, _], _ => rfl), F.kp⟩
  refine okN F sc_law_opens (fun vs H Q E h => ?_) (fun cdv A outer s H vs Q E hr h => ?_)
  · obtain ⟨v, x, u, h, z, t, L, rfl, _⟩ := h
    rfl
  · obtain ⟨v, x, u, h, z, t, L, rfl, hv, hh, hx, ht, hzl, hu, htL, q⟩ := h
    refine ⟨_, (pss_cons (ps_if (pt_cmpR op_eq (pe_ix (ix_listK (K := K) rfl) (pv 1) (pv 2) (fun _ _ => rfl)) (pe_ix (ix_listK (K := K) rfl) (pv 1) (pe_op op_add (pv 2) pe_int) (fun _ _ => rfl)) (nomark _)) (pss_one (ps_ret pe_bl)) pss_nil)
      (pss_cons (ps_for PassesOwn.never rfl (pi_list (pe_ix (ix_tupK (K := K) rfl) (pv 0) pe_int (fun _ _ => rfl))) (pg_tupK (K := K) (n := 3) rfl rfl (pgs_cons (pg_name (i := 4) sc_law_opens.nd rfl (Or.inl rfl)) (pgs_cons (pg_name (i := 5) sc_law_opens.nd rfl (Or.inl rfl)) (pgs_cons (pg_name (i := 6) sc_law_opens.nd rfl (Or.inl rfl)) pgs_nil)))) (pss_one (ps_if (PW.pt (pw_and (pt_cmpR op_eq (pv 4) (pe_ix (ix_listK (K := K) rfl) (pv 1) (pv 2) (fun _ _ => rfl)) (nomark _)) (pw_and1 (pt_cmpR op_eq (pv 5) (pe_ix (ix_listK (K := K) rfl) (pv 1) (pe_op op_add (pv 2) pe_int) (fun _ _ => rfl)) (nomark _))))) (pss_one (ps_if (pt_cmpR (op_eqDK (K := K) rfl hr.units) (pe_lc (own := [("_law_need", 7)]) (g := gName 7) (by rfl) sc_law_opens.nd (pi_list (pv 6)) (blkOk_by (own := [("_law_need", 7)]) (N := ["_law_house_here", "_law_walk_here", "_law_tick", "_law_light_here", "_law_place", "_law_goal", "_law_needs", "_law_need"]) (sc := defScope s_law_opens) (by decide +kernel)) (fun _ _ _ _ _ => (pg_name (i := 7) sc_law_opens.nd rfl (Or.inl rfl))) (fun _ _ _ _ _ => (pts_one (pt_cmpR (op_notInK (K := K) rfl) (pv 7) (pe_ix (ix_listK (K := K) rfl) (pv 3) (pv 2) (fun _ _ => rfl)) (by with_unfolding_all rfl)))) (fun _ _ _ _ _ => (pv 7))) (pe_lst pa_nil) (nomark _)) (pss_one (ps_ret pe_bl)) pss_nil)) pss_nil)))
      (pss_one (ps_ret pe_bl)))), ?_⟩
    obtain ⟨p, lv, ap, ps, bp, ss, rfl, hp, hlv, hap, hpa, hbp, hsb⟩ := dp_house hv
    obtain ⟨b, rfl, hb⟩ := dp_lN hx
    obtain ⟨ua, us, rfl, hua, hus⟩ := dp_list hu
    obtain ⟨f0, hf0, hd0⟩ := dpAll_get hus (rows_at htL)
    obtain ⟨f, rfl, hf⟩ := dp_lN hd0
    have g1 : (z.map vN)[t]? = some (vN (z.getD t 0)) := get_walk (by omega)
    have g2 : (z.map vN)[t + 1]? = some (vN (z.getD (t + 1) 0)) := get_walk ht
    refine ⟨_, rfl, _, rfl, b, _, _, _, rfl, rfl, hb, ixn rfl g1, _, rfl, _, rfl, _, _, rfl, rfl, b, _, _, _, rfl, rfl, hb, ixn (by omega) g2, rfl, _, rfl, ?_⟩
    generalize z.getD t 0 = pa at g1 q ⊢
    generalize z.getD (t + 1) 0 = pb at g2 q ⊢
    by_cases hab : pa = pb
    · exact itP (decide_eq_true (by rw [hab])) (q H true (Same.refl H) ⟨fun _ => .inl hab, fun _ => rfl⟩)
    refine itN (decide_eq_false fun e => hab (by have := V.int.inj e; omega)) ?_
    refine ⟨_, rfl, p, _, _, _, rfl, rfl, hp, rfl, bp, rfl, ⟨_, hbp⟩, for_list (xs := ss) (fun i σ H' => Same H H' ∧ (∀ s ∈ h.steps.take i, ¬ (s.place = pa ∧ s.goal = pb ∧ ∀ y ∈ s.needs, InL L t y)) ∧ ∃ o4 o5 o6 : Option V, σ = [some (.ref p), some (.ref b), some (vN t), some (.ref ua), o4, o5, o6, none])
      ⟨Same.refl H, fun s hs => by simp at hs, none, none, none, rfl⟩ (fun i σ H' _ t => t.1.seq hbp) ?_ ?_⟩
    · rintro i x σ H5 hi ⟨s5, hno, o4, o5, o6, rfl⟩
      obtain ⟨e, he, hxe⟩ := dpAll_at hsb hi
      obtain ⟨s, hs, rfl⟩ := map_get he
      have hsm := List.mem_of_getElem? hs
      obtain ⟨T, n, rfl, hT, hn⟩ := dp_stp hxe
      have skip : ∀ H', Same H5 H' → ¬ (s.place = pa ∧ s.goal = pb ∧ ∀ y ∈ s.needs, InL L t y) → Same H H' ∧ (∀ s ∈ h.steps.take (i + 1), ¬ (s.place = pa ∧ s.goal = pb ∧ ∀ y ∈ s.needs, InL L t y)) ∧ ∃ q4 q5 q6 : Option V, [some (.ref p), some (.ref b), some (vN t), some (.ref ua), some (vN s.place), some (vN s.goal), some (.ref n), none] = [some (.ref p), some (.ref b), some (vN t), some (.ref ua), q4, q5, q6, none] := by
        intro H' s' hn'
        refine ⟨s5.trans s', fun s1 hs1 => ?_, _, _, _, rfl⟩
        rw [List.take_add_one, hs] at hs1
        rcases List.mem_append.mp hs1 with h1 | h1
        · exact hno s1 h1
        · rw [Option.toList_some, List.mem_singleton] at h1
          rw [h1]
          exact hn'
      refine ⟨T, _, rfl, same_seqT s5 hT, rfl, _, _, rfl, _, _, rfl, _, _, rfl, rfl, ?_⟩
      refine ⟨_, rfl, _, rfl, _, rfl, b, _, _, _, rfl, rfl, s5.seq hb, ixn rfl g1, rfl, _, rfl, ?_⟩
      by_cases h1 : s.place = pa
      rotate_left
      · exact itN (decide_eq_false fun e => h1 (by have := V.int.inj e; omega)) (iteF (skip H5 (Same.refl _) fun z => h1 z.1))
      refine itP (decide_eq_true (by rw [h1])) ⟨_, rfl, _, rfl, _, rfl, _, _, rfl, rfl, b, _, _, _, rfl, rfl, s5.seq hb, ixn (by omega) g2, rfl, _, rfl, ?_⟩
      by_cases h2 : s.goal = pb
      rotate_left
      · exact itN (decide_eq_false fun e => h2 (by have := V.int.inj e; omega)) (skip H5 (Same.refl _) fun z => h2 z.2.1)
      refine itP (decide_eq_true (by rw [h2])) ?_
      have hn5 := s5.seq hn
      have hnl := (hh.steps s hsm).needs.2.2
      refine ⟨_, rfl, n, rfl, ⟨_, hn5⟩, fun D hD => ?_⟩
      refine lc_list (xs := s.needs.map vN) (fun i H' => Same H5 H' ∧ ∃ es : List Nat, H' D = some (.lst (es.map vN)) ∧ es.length ≤ i ∧ (es = [] ↔ ∀ x ∈ s.needs.take i, x ∈ L.getD t [])) ⟨same_upd hD, [], upd_same, Nat.le_refl _, by simp⟩ (fun i H' _ p => p.1.seq hn5) ?_ ?_
      · rintro i' x H6 hi' ⟨s6, es, e6, hel, hes⟩
        obtain ⟨r, hr, rfl⟩ := map_get hi'
        have hil := (List.getElem?_eq_some_iff.mp hr).1
        have s56 := s5.trans s6
        refine ⟨rfl, _, rfl, _, rfl, _, rfl, ua, _, _, _, rfl, rfl, s56.seq hua, ixn rfl hf0, f, _, rfl, .inl (s56.seq hf), rfl, flat_N _, _, rfl, ?_⟩
        by_cases hrin : r ∈ L.getD t []
        · refine itN (by show (!inV (vN r) ((L.getD t []).map vN)) = false; rw [inV_N, decide_eq_true hrin]; rfl) ⟨s6, es, e6, by omega, ?_⟩
          rw [List.take_add_one, hr, hes]
          simp only [Option.toList_some, List.mem_append, List.mem_singleton]
          exact ⟨fun h x hx => hx.elim (h x) fun e => e ▸ hrin, fun h x hx => h x (.inl hx)⟩
        · refine itP (by show (!inV (vN r) ((L.getD t []).map vN)) = true; rw [inV_N, decide_eq_false hrin]; rfl) ⟨_, rfl, _, e6, by rw [List.length_map]; exact small100 (by omega), same_put s6 hD, es ++ [r], ?_, by rw [List.length_append]; exact Nat.succ_le_succ hel, ?_⟩
          · rw [upd_same, List.map_append]
            rfl
          · rw [List.take_add_one, hr]
            simp only [Option.toList_some, List.mem_append, List.mem_singleton]
            refine ⟨fun h => by simp at h, fun h => absurd (h r (.inr rfl)) hrin⟩
      rintro H6 ⟨s6, es, e6, hel, hes⟩
      rw [List.length_map, List.take_length] at hes
      refine ⟨Nat.zero_le _, fun p2 hp2 => ⟨lN es, .list [], dp_lN_mk (.inl (.inl (by rw [upd_ne (ne_some e6 hp2).symm]; exact e6))), nil_dp upd_same, (tame_lN es).shaped (by decide), by decide, _, rfl, ?_⟩⟩
      have s7 : Same H5 (upd H6 p2 (.lst [])) := s6.trans (same_upd hp2)
      generalize upd H6 p2 (.lst []) = H7 at s7 ⊢
      have eev : PyData.eqv (lN es) (.list []) = decide (es = []) := by
        unfold lN
        rw [eqv_none]
        cases es <;> rfl
      by_cases hall : es = []
      · exact itP (eev.trans (decide_eq_true hall)) (q H7 true (s5.trans s7) ⟨fun _ => .inr ⟨s, hsm, h1, h2, hes.mp hall⟩, fun _ => rfl⟩)
      · exact itN (eev.trans (decide_eq_false hall)) (skip H7 s7 fun z => hall (hes.mpr z.2.2))
    · rintro σ H5 ⟨s5, hno, o4, o5, o6, rfl⟩
      refine q H5 false s5 ⟨fun z => (Bool.false_ne_true z).elim, fun z => ?_⟩
      rcases z with z | ⟨s, h1, h2⟩
      · exact absurd z hab
      · refine absurd h2 (hno s ?_)
        rw [show ss.length = h.steps.length by rw [dpAll_len hsb, List.length_map], List.take_length]
        exact h1
def sp_law_open (K : PySem.W.Frag) : Sp := fun vs H Q _ => ∃ (v u : V) (h : Hs) (ws : List (List Nat)) (z : List Nat) (i : Nat), vs = [v, u, vN i] ∧ Dp K H v h.data ∧ HsOk h ∧ h.rooms ≤ 30 ∧ Dp K H u (walksD ws) ∧ WalksOk h ws ∧ ws[i]? = some z ∧
  ∀ H' p (bs : List Bool), Same H H' → H' p = some (.lst (bs.map V.bl)) → bs.length = z.length - 1 → (∀ t b, bs[t]? = some b → (b = true ↔ h.opened ws z t ≠ none)) → Q (.ref p) H'
theorem sc_law_open : FnScope ["_law_house_here", "_law_walks", "_law_number", "_law_light_here", "_law_walk_here", "_law_tick"] ["_law_house_here", "_law_walks", "_law_number"] (defScope s_law_open) := ⟨rfl, rfl, rfl, by decide +kernel, rfl, by decide +kernel, by decide +kernel⟩
theorem ok_law_open (c : Cf K mg) (O_law_light : Ok P w K mg base 1 "_law_light" ["_law_level_here", "_law_presses"] (sp_law_light K)) (O_law_pressed : Ok P w K mg base 1 "_law_pressed" ["_law_house_here", "_law_walks"] (sp_law_pressed K)) (O_law_opens : Ok P w K mg base 1 "_law_opens" ["_law_house_here", "_law_walk_here", "_law_tick", "_law_light_here"] (sp_law_opens K)) : Ok P w K mg base 2 "_law_open" ["_law_house_here", "_law_walks", "_law_number"] (sp_law_open K) := by
  obtain ⟨fd, F⟩ := c.d.def_ 37 (d := d_law_open) rfl
  refine ⟨c.g_law_open, fd, ?_, FunD.bindsN F (fun _ _ _ _ _ _ us hl => match us, hl with | [_, _, _], _ => rfl), F.kp⟩
  refine okN F sc_law_open (fun vs H Q E h => ?_) (fun cdv A outer s H vs Q E hr h => ?_)
  · obtain ⟨v, u, h, ws, z, i, rfl, _⟩ := h
    rfl
  · obtain ⟨v, u, h, ws, z, i, rfl, hv, hh, hR, hu, hw, hz, q⟩ := h
    refine ⟨_, (pss_cons (ps_asg (pe_tup (pa_cons (pe_c O_law_light hr (pa_cons (pe_ix (ix_tupK (K := K) rfl) (pv 0) pe_int (fun _ _ => rfl)) (pa_cons (pe_c O_law_pressed hr (pa_cons (pv 0) (pa_cons (pv 1) pa_nil))) pa_nil))) (pa_cons (pe_ix (ix_listK (K := K) rfl) (pv 1) (pv 2) (fun _ _ => rfl)) pa_nil))) (pg_tupK (K := K) (n := 2) rfl rfl (pgs_cons (pg_name (i := 3) sc_law_open.nd rfl (Or.inr rfl)) (pgs_cons (pg_name (i := 4) sc_law_open.nd rfl (Or.inr rfl)) pgs_nil))))
      (pss_one (ps_ret (pe_lc (own := [("_law_tick", 5)]) (g := gName 5) (tt := tYes) (by rfl) sc_law_open.nd (pi_range1 (by rfl) c.n_range (pa_cons (pe_op op_sub (pe_callB (call_lenK (K := K) rfl) (by rfl) c.n_len boot_len (pa_cons (pv 4) pa_nil)) pe_int) pa_nil)) (blkOk_by (own := [("_law_tick", 5)]) (N := ["_law_house_here", "_law_walks", "_law_number", "_law_light_here", "_law_walk_here", "_law_tick"]) (sc := defScope s_law_open) (by decide +kernel)) (fun _ _ _ _ _ => (pg_name (i := 5) sc_law_open.nd rfl (Or.inl rfl))) (fun _ _ _ _ _ => pts_nil) (fun _ _ _ _ _ => (pe_c O_law_opens hr (pa_cons (pv 0) (pa_cons (pv 4) (pa_cons (pv 5) (pa_cons (pv 3) pa_nil)))))))))), ?_⟩
    obtain ⟨p, lv, ap, ps, bp, ss, rfl, hp, hlv, hap, hpa, hbp, hsb⟩ := dp_house hv
    obtain ⟨a, xs, rfl, ha, hx⟩ := dp_list hu
    obtain ⟨x, hxi, hxz⟩ := dpAll_get hx (show (ws.map lN)[i]? = some (lN z) by rw [List.getElem?_map, hz]; rfl)
    obtain ⟨b, rfl, hb⟩ := dp_lN hxz
    have hzm := List.mem_of_getElem? hz
    have hzl := (hw.1 z hzm).few
    have hzt := le_ticks hzm
    have htl : ticks ws ≤ 100 := ticks_le fun w hw' => (hw.1 w hw').few
    refine ⟨_, rfl, p, _, _, _, rfl, rfl, hp, rfl, _, rfl, _, rfl, .ref p, .ref a, h, ws, rfl, hv, hh, hR, hu, hw, fun H1 pu PL s1 hPu hPl hPi hPn => ?_⟩
    refine ⟨lv, pu, h.rooms, h.doors, PL, rfl, dp_mono s1 hlv, hh.doors, hh.dfew, by omega, hPu, by omega, hPn, fun H2 lu L s2 hL hLl hLi => ?_⟩
    have s3 := s1.trans s2
    refine ⟨_, rfl, _, rfl, a, _, _, _, rfl, rfl, s3.seq ha, ixn rfl hxi, (by show 2 ≤ sizeLine; decide), fun T hT => ⟨T, _, rfl, .inl (.inl upd_same), rfl, _, _, rfl, _, _, rfl, rfl, ?_⟩⟩
    have s4 := s3.trans (same_upd (o := .tup [lu, .ref b]) hT)
    have hL4 := dp_mono (same_upd (o := .tup [lu, .ref b]) hT) hL
    generalize upd H2 T (.tup [lu, .ref b]) = H4 at s4 hL4 ⊢
    refine ⟨_, rfl, b, _, rfl, .inl (s4.seq hb), _, _, rfl, rfl, _, rfl, ge62 (by omega), li62 (by rw [List.length_map]; omega), fun D hD => ?_⟩
    have hD0 := s4.free hD
    refine lc_range (fun i H' => Same H4 H' ∧ ∃ bs : List Bool, H' D = some (.lst (bs.map V.bl)) ∧ bs.length = i ∧ ∀ t b, bs[t]? = some b → (b = true ↔ h.opened ws z t ≠ none)) ⟨same_upd hD, [], upd_same, rfl, fun t b hb => by simp at hb⟩ ?_ ?_
    · rintro t H5 ht ⟨s5, bs, e5, hbl, hbs⟩
      rw [List.length_map] at ht
      have ht' : t + 1 < z.length := by omega
      have s6 := s4.trans s5
      refine ⟨rfl, _, rfl, _, rfl, _, rfl, _, rfl, .ref p, .ref b, lu, h, z, t, L, congrArg (fun n : Int => [V.ref p, V.ref b, V.int n, lu]) (by omega), dp_mono s6 hv, hh, dp_mono s6 hxz, ht', hzl, dp_mono s5 hL4, by omega, fun H6 g s7 hg => ?_⟩
      refine ⟨_, s7 _ _ e5, by rw [List.length_map]; exact small100 (by omega), same_put (s5.trans s7) hD, bs ++ [g], ?_, by rw [List.length_append, hbl]; rfl, fun t' b' hb' => ?_⟩
      · rw [upd_same, List.map_append]
        rfl
      · by_cases e : t' < bs.length
        · rw [List.getElem?_append_left e] at hb'
          exact hbs t' b' hb'
        · have hl := (List.getElem?_eq_some_iff.mp hb').1
          rw [List.length_append, List.length_singleton] at hl
          have et : t' = t := by omega
          subst et
          rw [List.getElem?_append_right (by omega), show t' - bs.length = 0 by omega] at hb'
          cases hb'
          have hPL : PL.take PL.length = PL := List.take_length
          rw [hg, opens_list hPi (Nat.le_refl PL.length) (by rw [hPL]; exact hLi), hPl]
          have hn := opened_isNone (ds := h.doors) (P := Prs h.plates ws) (ss := h.steps) (a := z.getD t' 0) (b := z.getD (t' + 1) 0) (t := t') (n := ticks ws) (by omega)
          show _ ↔ K30.opened h.doors (Prs h.plates ws) h.steps (ticks ws) (z.getD t' 0) (z.getD (t' + 1) 0) t' ≠ none
          rw [ne_eq, hn, Classical.not_not]
    · rintro H5 ⟨s5, bs, e5, hbl, hbs⟩
      rw [List.length_map] at hbl
      exact q H5 D bs (s4.trans s5) e5 (by omega) hbs
def sp_law_opened (K : PySem.W.Frag) : Sp := fun vs H Q _ => ∃ (v u : V) (h : Hs) (ws : List (List Nat)) (z : List Nat) (i t : Nat), vs = [v, u, vN i, vN t] ∧ Dp K H v h.data ∧ HsOk h ∧ h.rooms ≤ 30 ∧ Dp K H u (walksD ws) ∧ WalksOk h ws ∧ ws[i]? = some z ∧ t + 1 < z.length ∧
  ∀ H', Same H H' → Q (optV (h.opened ws z t)) H'
theorem sc_law_opened : FnScope ["_law_house_here", "_law_walks", "_law_number", "_law_tick", "_law_walk_here", "_law_pressed_here", "_law_many"] ["_law_house_here", "_law_walks", "_law_number", "_law_tick"] (defScope s_law_opened) := ⟨rfl, rfl, rfl, by decide +kernel, rfl, by decide +kernel, by decide +kernel⟩
theorem ok_law_opened (c : Cf K mg) (O_law_light : Ok P w K mg base 1 "_law_light" ["_law_level_here", "_law_presses"] (sp_law_light K)) (O_law_pressed : Ok P w K mg base 1 "_law_pressed" ["_law_house_here", "_law_walks"] (sp_law_pressed K)) (O_law_opens : Ok P w K mg base 1 "_law_opens" ["_law_house_here", "_law_walk_here", "_law_tick", "_law_light_here"] (sp_law_opens K)) : Ok P w K mg base 2 "_law_opened" ["_law_house_here", "_law_walks", "_law_number", "_law_tick"] (sp_law_opened K) := by
  obtain ⟨fd, F⟩ := c.d.def_ 38 (d := d_law_opened) rfl
  refine ⟨c.g_law_opened, fd, ?_, FunD.bindsN F (fun _ _ _ _ _ _ us hl => match us, hl with | [_, _, _, _], _ => rfl), F.kp⟩
  refine okN F sc_law_opened (fun vs H Q E h => ?_) (fun cdv A outer s H vs Q E hr h => ?_)
  · obtain ⟨v, u, h, ws, z, i, t, rfl, _⟩ := h
    rfl
  · obtain ⟨v, u, h, ws, z, i0, t, rfl, hv, hh, hR, hu, hw, hz, ht, q⟩ := h
    refine ⟨_, (pss_cons (ps_par (i := 4) (j := 5) (by rfl) sc_law_opened.nd rfl rfl (by decide) rfl rfl (pa_cons (pe_ix (ix_listK (K := K) rfl) (pv 1) (pv 2) (fun _ _ => rfl)) (pa_cons (pe_c O_law_pressed hr (pa_cons (pv 0) (pa_cons (pv 1) pa_nil))) pa_nil)) (by rfl))
      (pss_cons (ps_if (pt_cmpR op_eq (pe_ix (ix_listK (K := K) rfl) (pv 4) (pv 3) (fun _ _ => rfl)) (pe_ix (ix_listK (K := K) rfl) (pv 4) (pe_op op_add (pv 3) pe_int) (fun _ _ => rfl)) (nomark _)) (pss_one (ps_ret pe_int)) pss_nil)
      (pss_cons (ps_for PassesOwn.never rfl (pi_range2 (by rfl) c.n_range (pa_cons (pe_op op_add (pv 3) pe_int) (pa_cons (pe_op op_add (pe_callB (call_lenK (K := K) rfl) (by rfl) c.n_len boot_len (pa_cons (pv 5) pa_nil)) pe_int) pa_nil))) (pg_name (i := 6) sc_law_opened.nd rfl (Or.inl rfl)) (pss_one (ps_if (pt_val (pe_c O_law_opens hr (pa_cons (pv 0) (pa_cons (pv 4) (pa_cons (pv 3) (pa_cons (pe_c O_law_light hr (pa_cons (pe_ix (ix_tupK (K := K) rfl) (pv 0) pe_int (fun _ _ => rfl)) (pa_cons (pe_slice (sl_listK (K := K) rfl) (pv 5) po_none (po_some (pv 6))) pa_nil))) pa_nil)))))) (pss_one (ps_ret (pv 6))) pss_nil)))
      (pss_one (ps_ret pe_non))))), ?_⟩
    obtain ⟨p, lv, ap, ps, bp, ss, rfl, hp, hlv, hap, hpa, hbp, hsb⟩ := dp_house hv
    obtain ⟨a, xs, rfl, ha, hx⟩ := dp_list hu
    obtain ⟨x, hxi, hxz⟩ := dpAll_get hx (show (ws.map lN)[i0]? = some (lN z) by rw [List.getElem?_map, hz]; rfl)
    obtain ⟨b, rfl, hb⟩ := dp_lN hxz
    have hzm := List.mem_of_getElem? hz
    have hzl := (hw.1 z hzm).few
    have hzt := le_ticks hzm
    have htl : ticks ws ≤ 100 := ticks_le fun w hw' => (hw.1 w hw').few
    have g1 : (z.map vN)[t]? = some (vN (z.getD t 0)) := get_walk (by omega)
    have g2 : (z.map vN)[t + 1]? = some (vN (z.getD (t + 1) 0)) := get_walk ht
    refine ⟨_, rfl, _, rfl, a, _, _, _, rfl, rfl, ha, ixn rfl hxi, _, rfl, _, rfl, .ref p, .ref a, h, ws, rfl, hv, hh, hR, hu, hw, fun H1 pu PL s1 hPu hPl hPi hPn => ⟨_, _, rfl, ?_⟩⟩
    refine ⟨_, rfl, _, rfl, b, _, _, _, rfl, rfl, s1.seq hb, ixn rfl g1, _, rfl, _, rfl, _, _, rfl, rfl, b, _, _, _, rfl, rfl, s1.seq hb, ixn (by omega) g2, rfl, _, rfl, ?_⟩
    have eop : h.opened ws z t = K30.opened h.doors (Prs h.plates ws) h.steps (ticks ws) (z.getD t 0) (z.getD (t + 1) 0) t := rfl
    by_cases hab : z.getD t 0 = z.getD (t + 1) 0
    · refine itP (decide_eq_true (by rw [hab])) ?_
      have e : h.opened ws z t = some 0 := by rw [eop, hab]; exact opened_stay
      have := q H1 s1
      rw [e] at this
      exact this
    refine itN (decide_eq_false fun e => hab (by have := V.int.inj e; omega)) ?_
    obtain ⟨pb, us, rfl, hpb, hus⟩ := dp_list hPu
    have hul : us.length = ticks ws := by rw [dpAll_len hus, List.length_map, hPl]
    refine ⟨_, rfl, _, _, rfl, rfl, _, rfl, pb, _, rfl, .inl hpb, _, _, rfl, rfl, _, _, rfl, ⟨ge62 (by omega), li62 (by omega), ge62 (by omega), li62 (by omega)⟩, ?_⟩
    refine for_range (fun i σ H' => Same H1 H' ∧ (∀ m, t < m → m ≤ t + i → ¬ Opens h.doors (Prs h.plates ws) h.steps (z.getD t 0) (z.getD (t + 1) 0) t m) ∧ ∃ o : Option V, σ = [some (.ref p), some (.ref a), some (vN i0), some (vN t), some (.ref b), some (.ref pb), o]) ⟨Same.refl _, fun m h1 h2 => by omega, none, rfl⟩ ?_ ?_
    · rintro i σ H2 hi ⟨s2, hno, o, rfl⟩
      have hi' : t + 1 + i ≤ PL.length := by omega
      have sa := s1.trans s2
      refine ⟨_, rfl, _, rfl, _, rfl, _, rfl, p, _, _, _, rfl, rfl, same_seqT sa hp, rfl, _, rfl, _, rfl, _, rfl, pb, _, rfl, s2.seq hpb, fun c hc => ?_⟩
      have ecut : cutV us none (some ((t : Int) + 1 + (i : Int))) = us.take (t + 1 + i) := by
        rw [show (t : Int) + 1 + (i : Int) = ((t + 1 + i : Nat) : Int) by omega, cut_head _ _ (by omega)]
      rw [ecut]
      have s3 : Same H2 (upd H2 c (.lst (us.take (t + 1 + i)))) := same_upd hc
      have s4 := s2.trans s3
      have hdt : Dp K (upd H2 c (.lst (us.take (t + 1 + i)))) (.ref c) (walksD (PL.take (t + 1 + i))) := by
        refine .lst (xs := us.take (t + 1 + i)) (.inl (.inl upd_same)) ?_
        rw [List.map_take]
        exact dpAll_take _ (dpAll_mono s4 hus)
      refine ⟨lv, .ref c, h.rooms, h.doors, PL.take (t + 1 + i), rfl, dp_mono (s1.trans s4) hlv, hh.doors, hh.dfew, by omega, hdt, by rw [List.length_take]; omega, fun l hl => hPn l (List.mem_of_mem_take hl), fun H3 lu L s5 hL hLl hLi => ?_⟩
      rw [List.length_take] at hLl
      have s6 := s4.trans s5
      refine ⟨.ref p, .ref b, lu, h, z, t, L, rfl, dp_mono (s1.trans s6) hv, hh, dp_mono (s1.trans s6) hxz, ht, hzl, hL, by omega, fun H4 g s7 hg => ?_⟩
      rw [opens_list hPi hi' hLi] at hg
      refine ⟨_, rfl, ?_⟩
      cases g with
      | true =>
        have ho : Opens h.doors (Prs h.plates ws) h.steps (z.getD t 0) (z.getD (t + 1) 0) t (t + 1 + i) := by
          rcases hg.mp rfl with e | e
          · exact absurd e hab
          · exact e
        refine iteT ⟨_, rfl, ?_⟩
        have e : h.opened ws z t = some (t + 1 + i) := by
          rw [eop]
          exact opened_some hab (by omega) (by omega) ho fun k h1 h2 => hno k h1 (by omega)
        have := q H4 (s1.trans (s6.trans s7))
        rw [e] at this
        exact this
      | false =>
        refine iteF ⟨s6.trans s7, fun m h1 h2 => ?_, _, rfl⟩
        by_cases hm : m ≤ t + i
        · exact hno m h1 hm
        · have em : m = t + 1 + i := by omega
          rw [em]
          exact fun z => by
            have := hg.mpr (.inr z)
            cases this
    · rintro σ H2 ⟨s2, hno, o, rfl⟩
      have e : h.opened ws z t = none := by
        rw [eop]
        refine opened_none hab fun m h1 h2 => hno m h1 ?_
        omega
      have := q H2 (s1.trans s2)
      rw [e] at this
      exact this
end
end K30

/-! #### P -/
namespace K30
open PySem PySem.Spec PyProof.Rows L2
/-! ### calls by keywords alone, in the order turned round -/
theorem vals_snoc {vs : List V} {us : List Value} (h : Vals vs us) {v : V} {u : Value} (r : RelV v u) : Vals (vs ++ [v]) (us ++ [u]) := h.append (.cons r .nil)
theorem vals_rev : ∀ {vs : List V} {us : List Value}, Vals vs us → Vals vs.reverse us.reverse
  | _, _, .nil => .nil
  | _, _, .cons r h => by
    rw [List.reverse_cons, List.reverse_cons]
    exact vals_snoc (vals_rev h) r
theorem FunD.kbindsR {K : PySem.W.Frag} {x qual : Str} {params : Arguments} {body : List Stmt} {scope : Scope} {kws : List (Str × V)} {f : Addr} {fd : FuncData} {ps : List Str} (F : FunD K x qual params body scope [] kws f fd) (ks : List Str)
    (h : ∀ (kV doc pm : Value) (an : Option Addr) (cdv ct : Value) (ws : List Value), ws.length = ks.length → bindArgs (PySem.W.fnOf x qual params body scope .none kV doc pm an cdv ct) ⟨[], ks.zip ws⟩ = pure (ps.zip ws.reverse)) :
    KBn K fd ps 0 ks (fun _ ws => ws.reverse) (fun _ zs => zs.reverse) := by
  obtain ⟨oc, od, dV, kV, doc, pm, an, cdv, ct, osl, rfl, lk, hcd, hD, hK⟩ := F.ex
  rcases hD with ⟨_, rfl⟩ | ⟨e, _⟩
  · refine ⟨fun s us ws X l1 l2 => ?_, fun _ r => vals_rev r⟩
    have : us = [] := List.length_eq_zero_iff.mp l1
    subst this
    exact .of_eq (h kV doc pm an cdv ct ws l2)
  · exact absurd rfl e
def OkK (P : Program) (w : World) (K : PySem.W.Frag) (mg : Str → Option Value) (base : Heap) (k : Nat) (name : Str) (ps ks : List Str) (sp : Sp) : Prop :=
  mg name = some (.ref (He.ga K name)) ∧ ∃ fd, FnOk P w K mg base CX0 k (He.ga K name) fd ps sp ∧ KBn K fd ps 0 ks (fun _ ws => ws.reverse) (fun _ zs => zs.reverse) ∧ PySem.W.keepIn K (.ref (He.ga K name)) = true
section
variable {X : Cx} {k j : Nat} {name : Str} {ps ks : List Str} {sp : Sp} {p pos : Pos} {kws : List Keyword} {tk : TA}
theorem pe_ck (O : OkK X.prog X.w X.K X.mg X.base k name ps ks sp) (hr : Room j X.A) (hkw : PK X kws tk) (hk : k ≤ j := by decide) (hg : Gl X name := by rfl)
    (hall : (backToKw pos (keywordEach kws X.env)).all (·.1.isSome) = true := by rfl) (hks : (backToKw pos (keywordEach kws X.env)).filterMap (·.1) = ks := by rfl)
    (hdb : (name == ("__debug__" : Str)) = false := by decide)
    (hpl : ((backTo pos (starEach [] X.env)).any (·.1) || (backToKw pos (keywordEach kws X.env)).any (·.1.isNone)) = false := by rfl) :
    PE X (.Call (.Name name p) [] kws pos) (tCallN 0 ks.length sp (fun _ zs => zs.reverse) E0 tNil tk) := by
  obtain ⟨gm, fd, F, b, kp⟩ := O
  exact pe_callKW F (hr.mono hk) hg gm kp b pass0 hkw hall hks hdb hpl
end
/-! ### data that may be shown -/
structure Plain (n W : Nat) (d : PyData) : Prop where
  t : Tame n d
  sh : d.showable = true
  sl : d.leavesShort 13 = true
  w : d.weight ≤ W
theorem Plain.mono {n W n' W' : Nat} {d : PyData} (h : Plain n W d) (k : n ≤ n') (l : W ≤ W') : Plain n' W' d := ⟨h.t.mono k, h.sh, h.sl, Nat.le_trans h.w l⟩
theorem plain_int {i : Int} (h : i.natAbs ≤ 100) : Plain 0 7 (.int i) := by
  refine ⟨tame_int i, ?_, ?_, ?_⟩
  · have : i.natAbs.log2 < 1920 := Nat.lt_of_le_of_lt (Nat.log2_le_self _) (by omega)
    simp [PyData.showable, this]
  · have := PyData.shown_int_le (i := i) (Nat.lt_of_le_of_lt h (by decide))
    simp [PyData.leavesShort, this]
  · simp only [PyData.weight]
    split
    · omega
    · rename_i h0
      have h1 : i ≠ 0 := fun e => h0 (by rw [e]; rfl)
      have : i.natAbs.log2 < 7 := (Nat.log2_lt (by omega)).mpr (by omega)
      omega
theorem plain_nat {n : Nat} (h : n ≤ 100) : Plain 0 7 (iN n) := plain_int (by rw [Int.natAbs_natCast]; exact h)
theorem plain_non : Plain 0 0 .none := ⟨tame_non, by simp [PyData.showable], by simp [PyData.leavesShort], by simp [PyData.weight]⟩
theorem plain_all {n W : Nat} : ∀ {ds : List PyData}, (∀ d ∈ ds, Plain n W d) → PyData.showableAll ds = true ∧ PyData.leavesShortAll 13 ds = true ∧ PyData.weightAll ds ≤ ds.length * (W + 1)
  | [], _ => ⟨by simp [PyData.showableAll], by simp [PyData.leavesShortAll], by simp [PyData.weightAll]⟩
  | d :: ds, h => by
    obtain ⟨h1, h2, h3⟩ := plain_all (ds := ds) fun x hx => h x (List.mem_cons_of_mem _ hx)
    have h0 := h d (List.mem_cons_self ..)
    refine ⟨by simp [PyData.showableAll, h0.sh, h1], by simp [PyData.leavesShortAll, h0.sl, h2], ?_⟩
    have := h0.w
    simp only [PyData.weightAll, List.length_cons, Nat.succ_mul]
    omega
theorem plain_list {n W L : Nat} {ds : List PyData} (h : ∀ d ∈ ds, Plain n W d) (hl : ds.length ≤ L) : Plain (n + 1) (L * (W + 1)) (.list ds) := by
  obtain ⟨h1, h2, h3⟩ := plain_all h
  refine ⟨tame_list fun d hd => (h d hd).t, by simpa [PyData.showable] using h1, by simpa [PyData.leavesShort] using h2, ?_⟩
  simp only [PyData.weight]
  exact Nat.le_trans h3 (Nat.mul_le_mul_right _ hl)
theorem plain_tuple {n W L : Nat} {ds : List PyData} (h : ∀ d ∈ ds, Plain n W d) (hl : ds.length ≤ L) : Plain (n + 1) (L * (W + 1)) (.tuple ds) := by
  obtain ⟨h1, h2, h3⟩ := plain_all h
  refine ⟨tame_tuple fun d hd => (h d hd).t, by simpa [PyData.showable] using h1, by simpa [PyData.leavesShort] using h2, ?_⟩
  simp only [PyData.weight]
  exact Nat.le_trans h3 (Nat.mul_le_mul_right _ hl)
theorem Plain.fits {n W : Nat} {d : PyData} (h : Plain n W d) (k : W ≤ 1000000) : d.shown.length ≤ sizeLine := PyData.shown_fits (B := 13) (by decide) (by decide) h.sl (Nat.le_trans h.w (Nat.le_trans k (by decide)))
theorem Plain.noDict {n W : Nat} {d : PyData} (h : Plain n W d) : d.hasDict = false := PyData.hasDict_of_canLay d h.t.lay
theorem plain_lN {l : List Nat} {L : Nat} (h : ∀ x ∈ l, x ≤ 100) (hl : l.length ≤ L) : Plain 1 (L * 8) (lN l) := plain_list (L := L) (W := 7) (fun d hd => by
  obtain ⟨x, hx, rfl⟩ := List.mem_map.mp hd
  exact plain_nat (h x hx)) (by rw [List.length_map]; exact hl)
theorem plain_2 {n W : Nat} {a b : PyData} (h1 : Plain n W a) (h2 : Plain n W b) : ∀ d ∈ [a, b], Plain n W d := fun d hd => by
  simp only [List.mem_cons, List.not_mem_nil, or_false] at hd
  rcases hd with rfl | rfl
  · exact h1
  · exact h2
theorem plain_3 {n W : Nat} {a b c : PyData} (h1 : Plain n W a) (h2 : Plain n W b) (h3 : Plain n W c) : ∀ d ∈ [a, b, c], Plain n W d := fun d hd => by
  simp only [List.mem_cons, List.not_mem_nil, or_false] at hd
  rcases hd with rfl | rfl | rfl
  · exact h1
  · exact h2
  · exact h3
theorem Lights.plain {R : Nat} {l : List Nat} (h : Lights R l) (hR : R ≤ 30) : Plain 1 240 (lN l) := plain_lN (L := 30) (fun x hx => by have := h.2.1 x hx; omega) (Nat.le_trans (nodup_length_le (h.1.imp fun h => Nat.ne_of_lt h) h.2.1) hR)
theorem plain_house {h : Hs} (hh : HsOk h) (hf : h.rooms ≤ 30) : Plain 5 434409 h.data := by
  have hp := hh.pfew
  have hl : Plain 4 144802 (levelD h.rooms h.doors) := by
    refine plain_tuple (n := 3) (W := 72400) (L := 2) (plain_2 ((plain_nat (by omega)).mono (by decide) (by decide)) (plain_list (n := 2) (W := 723) (L := 100) (fun d hd => ?_) (by rw [List.length_map]; exact hh.dfew))) (Nat.le_refl _)
    obtain ⟨x, hx, rfl⟩ := List.mem_map.mp hd
    have k := hh.doors x hx
    have k2 := k.room
    have k3 := k.shift
    exact plain_tuple (n := 1) (W := 240) (L := 3) (plain_3 (k.needs.plain hf) ((plain_nat (by omega)).mono (by decide) (by decide)) ((plain_int (by omega)).mono (by decide) (by decide))) (Nat.le_refl _)
  have h2 : Plain 2 24100 (.list (h.plates.map lN)) := plain_list (n := 1) (W := 240) (L := 100) (fun d hd => by
    obtain ⟨x, hx, rfl⟩ := List.mem_map.mp hd
    exact (hh.plates x hx).plain hf) (by rw [List.length_map]; exact hp)
  have h3 : Plain 3 72400 (.list (h.steps.map Stp.data)) := plain_list (n := 2) (W := 723) (L := 100) (fun d hd => by
    obtain ⟨x, hx, rfl⟩ := List.mem_map.mp hd
    have k := hh.steps x hx
    have k1 := k.place
    have k2 := k.goal
    exact plain_tuple (n := 1) (W := 240) (L := 3) (plain_3 ((plain_nat (by omega)).mono (by decide) (by decide)) ((plain_nat (by omega)).mono (by decide) (by decide)) (k.needs.plain hf)) (Nat.le_refl _)) (by rw [List.length_map]; exact hh.sfew)
  exact plain_tuple (n := 4) (W := 144802) (L := 3) (plain_3 hl (h2.mono (by decide) (by decide)) (h3.mono (by decide) (by decide))) (Nat.le_refl _)
theorem plain_walks {h : Hs} (hh : HsOk h) {ws : List (List Nat)} (hw : WalksOk h ws) : Plain 2 80100 (walksD ws) := plain_list (n := 1) (W := 800) (L := 100) (fun d hd => by
  obtain ⟨x, hx, rfl⟩ := List.mem_map.mp hd
  have k := hw.1 x hx
  have hp := hh.pfew
  exact plain_lN (L := 100) (fun y hy => by have := k.places y hy; omega) k.few) (by rw [List.length_map]; exact hw.2)
def pairD (h : Hs) (ws : List (List Nat)) : PyData := .list [h.data, walksD ws]
theorem plain_pair {h : Hs} (hh : HsOk h) (hf : h.rooms ≤ 30) {ws : List (List Nat)} (hw : WalksOk h ws) : Plain 6 868820 (pairD h ws) := plain_list (n := 5) (W := 434409) (L := 2) (plain_2 (plain_house hh hf) ((plain_walks hh hw).mono (by decide) (by decide))) (Nat.le_refl _)
theorem opened_le {h : Hs} {ws : List (List Nat)} {w : List Nat} {t m : Nat} (e : h.opened ws w t = some m) : m ≤ ticks ws := by
  rcases opened_cases (ds := h.doors) (P := Prs h.plates ws) (ss := h.steps) (n := ticks ws) (a := w.getD t 0) (b := w.getD (t + 1) 0) (t := t) with ⟨_, q⟩ | ⟨_, q, _⟩ | ⟨k, _, q, _, hk, _⟩
  · have : (some 0 : Option Nat) = some m := q.symm.trans e
    cases this
    omega
  · have : (none : Option Nat) = some m := q.symm.trans e
    cases this
  · have : (some k : Option Nat) = some m := q.symm.trans e
    cases this
    exact hk
theorem debts_small {h : Hs} {ws : List (List Nat)} (hw : WalksOk h ws) : ∀ x ∈ h.debts ws, x.1 ≤ 100 ∧ x.2.1 ≤ 100 ∧ x.2.2 ≤ 100 := by
  intro x hx
  unfold Hs.debts Hs.debtsTo at hx
  rw [List.mem_flatMap] at hx
  obtain ⟨i, hi, hx⟩ := hx
  unfold Hs.row at hx
  rw [List.mem_filterMap] at hx
  obtain ⟨t, ht, hx⟩ := hx
  rw [List.mem_range] at hi ht
  have hwl := hw.2
  have hm : ws.getD i [] ∈ ws := List.mem_of_getElem? (by rw [List.getD_eq_getElem?_getD, List.getElem?_eq_getElem hi]; rfl)
  have hf := (hw.1 _ hm).few
  have htl : ticks ws ≤ 100 := ticks_le fun w hw' => (hw.1 w hw').few
  cases e : h.opened ws (ws.getD i []) t with
  | none => rw [e] at hx; cases hx
  | some m =>
    have := opened_le e
    rw [e] at hx
    unfold debt at hx
    simp only at hx
    split at hx
    · cases hx
      exact ⟨by show i ≤ 100; omega, by show t ≤ 100; omega, by show m ≤ 100; omega⟩
    · cases hx
theorem plain_debts {h : Hs} {ws : List (List Nat)} (hw : WalksOk h ws) : Plain 2 250000 (.list ((h.debts ws).map tripD)) := plain_list (n := 1) (W := 24) (L := 10000) (fun d hd => by
  obtain ⟨x, hx, rfl⟩ := List.mem_map.mp hd
  obtain ⟨h1, h2, h3⟩ := debts_small hw x hx
  exact plain_tuple (n := 0) (W := 7) (L := 3) (plain_3 (plain_nat (by omega)) (plain_nat (by omega)) (plain_nat (by omega))) (Nat.le_refl _)) (by
    rw [List.length_map]
    have := debtsTo_len hw ws.length (Nat.le_refl _)
    have h2 := hw.2
    unfold Hs.debts
    omega)
def optD : Option Nat → PyData
  | some m => iN m
  | none => .none
theorem dp_opt {K : PySem.W.Frag} {H : Hp} (o : Option Nat) : Dp K H (optV o) (optD o) := by
  cases o with
  | none => exact .non
  | some m => exact .int _
theorem plain_opt {o : Option Nat} (h : ∀ m, o = some m → m ≤ 100) : Plain 0 7 (optD o) := by
  cases o with
  | none => exact plain_non.mono (Nat.le_refl _) (by decide)
  | some m => exact plain_nat (h m rfl)
section
variable {P : Program} {w : World} {K : PySem.W.Frag} {mg : Str → Option Value} {base : Heap}
theorem okK_opened_by (c : Cf K mg) (O_check_walks : Ok P w K mg base 9 "check_walks" ["house", "walks"] (sp_check_walks K)) (O_check_walk_number : Ok P w K mg base 3 "check_walk_number" ["walks", "number"] (sp_check_walk_number K)) (O_is_between : Ok P w K mg base 2 "is_between" ["value", "low", "high"] (sp_is_between K)) (O_opened_in : Ok P w K mg base 4 "opened_in" ["house", "masks", "walk", "tick"] (sp_opened_in K)) (O_pressed_masks : Ok P w K mg base 2 "pressed_masks" ["house", "walks"] (sp_pressed_masks K)) : OkK P w K mg base 10 "opened_by" ["house", "walks", "number", "tick"] ["tick", "number", "walks", "house"] (sp_opened_by K) := by
  obtain ⟨fd, ok, F⟩ := okF_opened_by (P := P) (w := w) (base := base) c O_check_walks O_check_walk_number O_is_between O_opened_in O_pressed_masks
  exact ⟨c.g_opened_by, fd, ok, FunD.kbindsR F _ (fun _ _ _ _ _ _ ws hl => match ws, hl with | [_, _, _, _], _ => rfl), F.kp⟩
theorem okK_debts (c : Cf K mg) (O_check_walks : Ok P w K mg base 9 "check_walks" ["house", "walks"] (sp_check_walks K)) (O_opened_in : Ok P w K mg base 4 "opened_in" ["house", "masks", "walk", "tick"] (sp_opened_in K)) (O_pressed_masks : Ok P w K mg base 2 "pressed_masks" ["house", "walks"] (sp_pressed_masks K)) : OkK P w K mg base 10 "debts" ["house", "walks"] ["walks", "house"] (sp_debts K) := by
  obtain ⟨fd, ok, F⟩ := okF_debts (P := P) (w := w) (base := base) c O_check_walks O_opened_in O_pressed_masks
  exact ⟨c.g_debts, fd, ok, FunD.kbindsR F _ (fun _ _ _ _ _ _ ws hl => match ws, hl with | [_, _], _ => rfl), F.kp⟩
def sp_law_same (K : PySem.W.Frag) : Sp := fun vs H Q _ => ∃ (x y : V) (d : PyData) (n W : Nat), vs = [x, y] ∧ Dp K H x d ∧ Dp K H y d ∧ Plain n W d ∧ n ≤ 60 ∧ W ≤ 1000000 ∧ Q (.bl true) H
theorem sc_law_same : FnScope ["_law_told", "_law_due"] ["_law_told", "_law_due"] (defScope s_law_same) := ⟨rfl, rfl, rfl, by decide +kernel, rfl, by decide +kernel, by decide +kernel⟩
theorem ok_law_same (c : Cf K mg)  : OkG P w K mg base 1 "_law_same" ["_law_told", "_law_due"] (sp_law_same K) := by
  obtain ⟨fd, F⟩ := c.d.def_ 28 (d := d_law_same) rfl
  refine ⟨c.g_law_same, fd, ?_, FunD.bindsN F (fun _ _ _ _ _ _ us hl => match us, hl with | [_, _], _ => rfl), F.kp⟩
  refine okG F sc_law_same (fun vs H Q E h => ?_) (fun cdv A outer s H vs Q E hr hgd h => ?_)
  · obtain ⟨x, y, d, n, W, rfl, _⟩ := h
    rfl
  · obtain ⟨x, y, d, n, W, rfl, hx, hy, hd, hn, hW, q⟩ := h
    have hrd := Nat.lt_of_le_of_lt (show _ + (d.depth + 2) ≤ _ + 64 from Nat.add_le_add_left (by have := hd.t.dep; omega) _) hr.units
    refine ⟨_, (pss_one (ps_ret (pe_cmpR op_eq (pe_callB (call_reprD hgd hrd) (by rfl) c.n_repr (by decide +kernel) (pa_cons (pv 0) pa_nil)) (pe_callB (call_reprD hgd hrd) (by rfl) c.n_repr (by decide +kernel) (pa_cons (pv 1) pa_nil)) (nomark _)))), ?_⟩
    refine ⟨_, rfl, _, rfl, hx, hd.sh, hd.noDict, hd.fits hW, _, rfl, _, rfl, hy, hd.sh, hd.noDict, hd.fits hW, rfl, ?_⟩
    rw [decide_eq_true rfl]
    exact q
end
end K30

/-! #### Q -/
namespace K30
open PySem PySem.Spec PyProof.Rows L2
theorem opt_non (o : Option Nat) : decide (optV o = V.non) = o.isNone := by
  cases o with
  | none => exact decide_eq_true rfl
  | some m => exact decide_eq_false fun e => by cases e
theorem none_open {o : Option Nat} {b : Bool} (h : b = true ↔ o ≠ none) : decide (V.bl (decide (optV o = V.non)) = V.bl b) = false := by
  rw [opt_non]
  refine decide_eq_false fun e => ?_
  have e' := V.bl.inj e
  cases o with
  | none =>
    have : b = true := e'.symm
    exact absurd rfl (h.mp this)
  | some m =>
    have : b = true := h.mpr (by simp)
    rw [this] at e'
    cases e'
section
variable {P : Program} {w : World} {K : PySem.W.Frag} {mg : Str → Option Value} {base : Heap}
def sp_law_told_right (K : PySem.W.Frag) : Sp := fun vs H Q _ => ∃ (v u : V) (h : Hs) (ws : List (List Nat)), vs = [v, u] ∧ Dp K H v h.data ∧ HsOk h ∧ h.rooms ≤ 30 ∧ Dp K H u (walksD ws) ∧ WalksOk h ws ∧
  ∀ H', Same H H' → Q (.bl true) H'
theorem sc_law_told_right : FnScope ["_law_house_here", "_law_walks", "_law_found", "_law_kept", "_law_number", "_law_walk_here", "_law_tick", "_law_many", "_law_told"] ["_law_house_here", "_law_walks"] (defScope s_law_told_right) := ⟨rfl, rfl, rfl, by decide +kernel, rfl, by decide +kernel, by decide +kernel⟩
theorem ok_law_told_right (c : Cf K mg) (O_law_opened : Ok P w K mg base 2 "_law_opened" ["_law_house_here", "_law_walks", "_law_number", "_law_tick"] (sp_law_opened K)) (O_law_open : Ok P w K mg base 2 "_law_open" ["_law_house_here", "_law_walks", "_law_number"] (sp_law_open K)) (O_law_same : OkG P w K mg base 1 "_law_same" ["_law_told", "_law_due"] (sp_law_same K)) (O_opened_by : Ok P w K mg base 10 "opened_by" ["house", "walks", "number", "tick"] (sp_opened_by K)) (K_opened_by : OkK P w K mg base 10 "opened_by" ["house", "walks", "number", "tick"] ["tick", "number", "walks", "house"] (sp_opened_by K)) (O_debts : Ok P w K mg base 10 "debts" ["house", "walks"] (sp_debts K)) (K_debts : OkK P w K mg base 10 "debts" ["house", "walks"] ["walks", "house"] (sp_debts K)) : OkG P w K mg base 11 "_law_told_right" ["_law_house_here", "_law_walks"] (sp_law_told_right K) := by
  obtain ⟨fd, F⟩ := c.d.def_ 39 (d := d_law_told_right) rfl
  refine ⟨c.g_law_told_right, fd, ?_, FunD.bindsN F (fun _ _ _ _ _ _ us hl => match us, hl with | [_, _], _ => rfl), F.kp⟩
  refine okG F sc_law_told_right (fun vs H Q E h => ?_) (fun cdv A outer s H vs Q E hr hgd h => ?_)
  · obtain ⟨v, u, h, ws, rfl, _⟩ := h
    rfl
  · obtain ⟨v, u, h, ws, rfl, hv, hh, hR, hu, hw, q⟩ := h
    have hpD := plain_pair hh hR hw
    have hrd := Nat.lt_of_le_of_lt (show _ + ((pairD h ws).depth + 2) ≤ _ + 64 from Nat.add_le_add_left (by have := hpD.t.dep; omega) _) hr.units
    refine ⟨_, (pss_cons (ps_par (i := 2) (j := 3) (by rfl) sc_law_told_right.nd rfl rfl (by decide) rfl rfl (pa_cons (pe_lst pa_nil) (pa_cons (pe_callB (call_reprD hgd hrd) (by rfl) c.n_repr (by decide +kernel) (pa_cons (pe_lst (pa_cons (pv 0) (pa_cons (pv 1) pa_nil))) pa_nil)) pa_nil)) (by rfl))
      (pss_cons (ps_for PassesOwn.never rfl (pi_enum (by rfl) c.n_enumerate (pa_cons (pv 1) pa_nil)) (pg_tupK (K := K) (n := 2) rfl rfl (pgs_cons (pg_name (i := 4) sc_law_told_right.nd rfl (Or.inl rfl)) (pgs_cons (pg_name (i := 5) sc_law_told_right.nd rfl (Or.inl rfl)) pgs_nil))) (pss_one (ps_for PassesOwn.never rfl (pi_range1 (by rfl) c.n_range (pa_cons (pe_op op_sub (pe_callB (call_lenK (K := K) rfl) (by rfl) c.n_len boot_len (pa_cons (pv 5) pa_nil)) pe_int) pa_nil)) (pg_name (i := 6) sc_law_told_right.nd rfl (Or.inl rfl)) (pss_cons (ps_set (i := 7) sc_law_told_right.nd rfl (Or.inl rfl) (pe_c O_law_opened hr (pa_cons (pv 0) (pa_cons (pv 1) (pa_cons (pv 4) (pa_cons (pv 6) pa_nil))))))
      (pss_cons (ps_if (pt_not (pt_val (pe_cG O_law_same hr hgd (pa_cons (pe_c O_opened_by hr (pa_cons (pv 0) (pa_cons (pv 1) (pa_cons (pv 4) (pa_cons (pv 6) pa_nil))))) (pa_cons (pv 7) pa_nil))))) (pss_one (ps_ret pe_bl)) pss_nil)
      (pss_cons (ps_if (pt_not (pt_val (pe_cG O_law_same hr hgd (pa_cons (pe_ck K_opened_by hr (pk_cons (pv 6) (pk_cons (pv 4) (pk_cons (pv 1) (pk_cons (pv 0) pk_nil))))) (pa_cons (pv 7) pa_nil))))) (pss_one (ps_ret pe_bl)) pss_nil)
      (pss_cons (ps_if (PW.pt (pw_and (pt_cmpR op_notN (pv 7) pe_non (nomark _)) (pw_and1 (pt_cmpR op_gt (pv 7) (pe_op op_add (pv 6) pe_int) (nomark _))))) (pss_one (ps_expr (pe_bm PySem.F.plainAttrs_list PySem.F.slot_list_append PySem.F.type_list_append mt_append (pv 2) (pa_cons (pe_tup (pa_cons (pv 4) (pa_cons (pv 6) (pa_cons (pv 7) pa_nil)))) pa_nil)))) pss_nil)
      (pss_one (ps_if (pt_cmpR op_eq (pe_cmpR op_isN (pv 7) pe_non (nomark _)) (pe_ix (ix_listK (K := K) rfl) (pe_c O_law_open hr (pa_cons (pv 0) (pa_cons (pv 1) (pa_cons (pv 4) pa_nil)))) (pv 6) (fun _ _ => rfl)) (nomark _)) (pss_one (ps_ret pe_bl)) pss_nil)))))))))
      (pss_cons (ps_set (i := 8) sc_law_told_right.nd rfl (Or.inl rfl) (pe_c O_debts hr (pa_cons (pv 0) (pa_cons (pv 1) pa_nil))))
      (pss_cons (ps_if (PW.pt (pw_or (pt_not (pt_val (pe_cG O_law_same hr hgd (pa_cons (pv 8) (pa_cons (pv 2) pa_nil))))) (pw_or1 (pt_cmpR op_ne (pe_callB (call_reprD hgd hrd) (by rfl) c.n_repr (by decide +kernel) (pa_cons (pe_lst (pa_cons (pv 0) (pa_cons (pv 1) pa_nil))) pa_nil)) (pv 3) (nomark _))))) (pss_one (ps_ret pe_bl)) pss_nil)
      (pss_cons (ps_expr (pe_bm PySem.F.plainAttrs_list PySem.F.slot_list_append PySem.F.type_list_append mt_append (pv 8) (pa_cons pe_non pa_nil)))
      (pss_one (ps_ret (pe_cG O_law_same hr hgd (pa_cons (pe_ck K_debts hr (pk_cons (pv 1) (pk_cons (pv 0) pk_nil))) (pa_cons (pv 2) pa_nil)))))))))), ?_⟩
    obtain ⟨a, xs, rfl, ha, hx⟩ := dp_list hu
    have hxl : xs.length = ws.length := by rw [dpAll_len hx, List.length_map]
    have hwf := hw.2
    have htl : ticks ws ≤ 100 := ticks_le fun w hw' => (hw.1 w hw').few
    have hDd := plain_debts hw
    have pair : ∀ {H' : Hp} {p : Addr}, Same H H' → H' p = some (.lst [v, .ref a]) → Dp K H' (.ref p) (pairD h ws) := fun s e => .lst (xs := [v, .ref a]) (.inl (.inl e)) (.cons (dp_mono s hv) (.cons (dp_mono s hu) .nil))
    refine ⟨Nat.zero_le _, fun F hF => ?_⟩
    have s1 : Same H (upd H F (.lst [])) := same_upd hF
    refine ⟨_, rfl, _, rfl, (by show 2 ≤ sizeLine; decide), fun p0 hp0 => ?_⟩
    have s2 := s1.trans (same_upd (o := .lst [v, .ref a]) hp0)
    have e2 : (upd (upd H F (.lst [])) p0 (.lst [v, .ref a])) F = some (.lst []) := by rw [upd_ne (ne_some upd_same hp0).symm]; exact upd_same
    have d2 := pair s2 (p := p0) upd_same
    generalize upd (upd H F (.lst [])) p0 (.lst [v, .ref a]) = H2 at s2 e2 d2 ⊢
    refine ⟨_, rfl, d2, hpD.sh, hpD.noDict, hpD.fits (by decide), _, _, rfl, ?_⟩
    refine ⟨_, rfl, a, _, rfl, s2.seq ha, for_it (walk_enum (xs := xs)) (fun i σ H' => Same H H' ∧ ∃ (o4 o5 o6 o7 : Option V) (ys : List V), σ = [some v, some (.ref a), some (.ref F), some (.str (pairD h ws).shown), o4, o5, o6, o7, none] ∧ H' F = some (.lst ys) ∧ DpAll K (hid F H') ys ((h.debtsTo ws i).map tripD))
      ⟨s2, none, none, none, none, [], rfl, e2, .nil⟩ (fun i σ H' _ p => p.1.seq ha) ?_ ?_⟩
    · rintro i x σ H3 H4 hi ⟨s4, o4, o5, o6, o7, ys, rfl, e4, hys⟩ ⟨T, x1, x2, rfl, hT, rfl, f1, f2⟩
      cases f1
      obtain ⟨e, he, hxe⟩ := dpAll_at hx f2
      obtain ⟨z, hz, rfl⟩ := map_get he
      obtain ⟨n, rfl, hn⟩ := dp_lN hxe
      have hzm := List.mem_of_getElem? hz
      have hzl := (hw.1 z hzm).few
      have hil := (List.getElem?_eq_some_iff.mp hz).1
      have nT : T ≠ F := ne_some e4 hT
      have t3 : Same H3 (upd H3 T (.tup [.int (i : Nat), .ref n])) := same_upd hT
      have e5 : (upd H3 T (.tup [.int (i : Nat), .ref n])) F = some (.lst ys) := by rw [upd_ne nT.symm]; exact e4
      have hys5 := dpAll_mono (hid_mono (D := F) t3) hys
      have s5 := s4.trans t3
      refine ⟨T, _, rfl, .inl (.inl upd_same), rfl, _, _, rfl, _, _, rfl, rfl, ?_⟩
      generalize upd H3 T (.tup [.int (i : Nat), .ref n]) = H5 at s5 e5 hys5 ⊢
      refine ⟨_, rfl, n, _, rfl, .inl (s5.seq hn), _, _, rfl, rfl, _, rfl, ge62 (by omega), li62 (by rw [List.length_map]; omega), ?_⟩
      refine for_range (fun j σ H' => Same H H' ∧ ∃ (o6 o7 : Option V) (ys : List V), σ = [some v, some (.ref a), some (.ref F), some (.str (pairD h ws).shown), some (vN i), some (.ref n), o6, o7, none] ∧ H' F = some (.lst ys) ∧ DpAll K (hid F H') ys ((h.debtsTo ws i ++ h.row ws i z j).map tripD)) ⟨s5, o6, o7, ys, rfl, e5, by rw [row_zero, List.append_nil]; exact hys5⟩ ?_ ?_
      · rintro j σ H6 hj ⟨s6, o6, o7, ys, rfl, e6, hys⟩
        rw [List.length_map] at hj
        have hjz : j + 1 < z.length := by omega
        have ej : (0 : Int) + (j : Int) = ((j : Nat) : Int) := by omega
        rw [ej]
        have hpo : Plain 0 7 (optD (h.opened ws z j)) := plain_opt fun m hm => Nat.le_trans (opened_le hm) htl
        have hn2 : ∀ b : Bool, (b = true ↔ h.opened ws z j ≠ none) → decide (V.bl (decide (optV (h.opened ws z j) = V.non)) = V.bl b) = false := fun b hb => none_open hb
        refine ⟨_, rfl, _, rfl, _, rfl, _, rfl, v, .ref a, h, ws, z, i, j, rfl, dp_mono s6 hv, hh, hR, dp_mono s6 hu, hw, hz, hjz, fun H7 s7 => ?_⟩
        have s67 := s6.trans s7
        refine ⟨_, rfl, _, rfl, _, rfl, _, rfl, v, .ref a, h, ws, z, i, j, rfl, dp_mono s67 hv, hh, dp_mono s67 hu, hw, hz, hjz, fun H8 s8 => ⟨_, rfl, _, _, _, 0, 7, rfl, dp_opt _, dp_opt _, hpo, by decide, by decide, _, rfl, iteF ?_⟩⟩
        have s68 := s67.trans s8
        refine ⟨_, rfl, _, rfl, _, rfl, _, rfl, rfl, rfl, v, .ref a, h, ws, z, i, j, rfl, dp_mono s68 hv, hh, dp_mono s68 hu, hw, hz, hjz, fun H9 s9 => ⟨_, rfl, _, _, _, 0, 7, rfl, dp_opt _, dp_opt _, hpo, by decide, by decide, _, rfl, iteF ?_⟩⟩
        have s79 := s7.trans (s8.trans s9)
        have s69 := s6.trans s79
        have e9 := s79 _ _ e6
        have hys9 := dpAll_mono (hid_mono (D := F) s79) hys
        have hlen := dpAll_len hys9
        rw [List.length_map, List.length_append] at hlen
        have hb1 := debtsTo_len hw i (by omega)
        have hb2 := row_len h ws i z j
        clear s7 s8 s9 s67 s68 s79
        cases eo : h.opened ws z j with
        | none =>
          rw [eo] at hn2
          refine ⟨_, rfl, rfl, _, rfl, iteF (iteF ?_)⟩
          refine ⟨_, rfl, rfl, _, rfl, _, rfl, _, rfl, v, .ref a, h, ws, z, i, rfl, dp_mono s69 hv, hh, hR, dp_mono s69 hu, hw, hz, fun H10 b bs s10 e10 hbl hbs => ?_⟩
          have hbj : bs[j]? = some bs[j] := List.getElem?_eq_getElem (by omega)
          have hb := hbs j _ hbj
          rw [eo] at hb
          refine ⟨_, rfl, b, _, _, _, rfl, rfl, .inl (.inl e10), ixn rfl (show (bs.map V.bl)[j]? = some (V.bl bs[j]) by rw [List.getElem?_map, hbj]; rfl), rfl, _, rfl, itN (hn2 _ hb) ?_⟩
          refine ⟨s69.trans s10, _, some .non, ys, rfl, s10 _ _ e9, ?_⟩
          rw [row_succ, eo]
          simpa [debt] using dpAll_mono (hid_mono (D := F) s10) hys9
        | some m =>
          rw [eo] at hn2
          refine ⟨_, rfl, rfl, _, rfl, iteT ⟨_, rfl, _, rfl, _, _, rfl, rfl, _, _, rfl, rfl, _, rfl, ?_⟩⟩
          by_cases hm : j + 1 < m
          · refine itP (decide_eq_true (by omega)) ?_
            refine ⟨_, rfl, .inl ⟨rfl, _, .inl (.inl e9)⟩, _, rfl, _, rfl, _, rfl, (by show 3 ≤ sizeLine; decide), fun T2 hT2 => ?_⟩
            have nT2 : T2 ≠ F := ne_some e9 hT2
            refine ⟨F, ys, _, rfl, rfl, by rw [upd_ne nT2.symm]; exact e9, Nat.lt_of_le_of_lt (show ys.length ≤ 100000 by omega) (by decide), ?_⟩
            have sB : Same H (upd (upd H9 T2 (.tup [vN i, vN j, vN m])) F (.lst (ys ++ [.ref T2]))) := same_put (s69.trans (same_upd hT2)) hF
            have eB : (upd (upd H9 T2 (.tup [vN i, vN j, vN m])) F (.lst (ys ++ [.ref T2]))) F = some (.lst (ys ++ [.ref T2])) := upd_same
            have hB : DpAll K (hid F (upd (upd H9 T2 (.tup [vN i, vN j, vN m])) F (.lst (ys ++ [.ref T2])))) (ys ++ [.ref T2]) ((h.debtsTo ws i ++ h.row ws i z (j + 1)).map tripD) := by
              rw [row_succ, eo, hid_upd, ← List.append_assoc, List.map_append]
              have ed : debt i j (some m) = some (i, j, m) := if_pos hm
              rw [ed]
              refine dpAll_snoc (dpAll_mono (hid_mono (same_upd hT2)) hys9) (.tup (xs := [vN i, vN j, vN m]) (.inl (.inl ?_)) (.cons (.int _) (.cons (.int _) (.cons (.int _) .nil))))
              rw [hid_ne nT2]
              exact upd_same
            refine ⟨_, rfl, rfl, _, rfl, _, rfl, _, rfl, v, .ref a, h, ws, z, i, rfl, dp_mono sB hv, hh, hR, dp_mono sB hu, hw, hz, fun H10 b bs s10 e10 hbl hbs => ?_⟩
            have hbj : bs[j]? = some bs[j] := List.getElem?_eq_getElem (by omega)
            have hb := hbs j _ hbj
            rw [eo] at hb
            refine ⟨_, rfl, b, _, _, _, rfl, rfl, .inl (.inl e10), ixn rfl (show (bs.map V.bl)[j]? = some (V.bl bs[j]) by rw [List.getElem?_map, hbj]; rfl), rfl, _, rfl, itN (hn2 _ hb) ?_⟩
            exact ⟨sB.trans s10, _, some (vN m), _, rfl, s10 _ _ eB, dpAll_mono (hid_mono (D := F) s10) hB⟩
          · refine itN (decide_eq_false (by omega)) ?_
            refine ⟨_, rfl, rfl, _, rfl, _, rfl, _, rfl, v, .ref a, h, ws, z, i, rfl, dp_mono s69 hv, hh, hR, dp_mono s69 hu, hw, hz, fun H10 b bs s10 e10 hbl hbs => ?_⟩
            have hbj : bs[j]? = some bs[j] := List.getElem?_eq_getElem (by omega)
            have hb := hbs j _ hbj
            rw [eo] at hb
            refine ⟨_, rfl, b, _, _, _, rfl, rfl, .inl (.inl e10), ixn rfl (show (bs.map V.bl)[j]? = some (V.bl bs[j]) by rw [List.getElem?_map, hbj]; rfl), rfl, _, rfl, itN (hn2 _ hb) ?_⟩
            refine ⟨s69.trans s10, _, some (vN m), ys, rfl, s10 _ _ e9, ?_⟩
            rw [row_succ, eo]
            have ed : debt i j (some m) = none := if_neg hm
            rw [ed]
            simpa using dpAll_mono (hid_mono (D := F) s10) hys9
      · rintro σ H6 ⟨s6, o6, o7, ys, rfl, e6, hys⟩
        refine ⟨s6, _, _, o6, o7, ys, rfl, e6, ?_⟩
        rw [debtsTo_succ hz]
        have e : (((z.map vN).length : Int) - 1).toNat = z.length - 1 := by rw [List.length_map]; omega
        rw [← e]
        exact hys
    · rintro σ H3 ⟨s3, o4, o5, o6, o7, ys, rfl, e3, hys⟩
      rw [hxl] at hys
      have dF : ∀ {H' : Hp}, H' F = some (.lst ys) → DpAll K (hid F H') ys ((h.debts ws).map tripD) → Dp K H' (.ref F) (.list ((h.debts ws).map tripD)) := fun e hd => .lst (.inl (.inl e)) (dpAll_mono (hid_same _ _) hd)
      refine ⟨_, rfl, _, rfl, v, .ref a, h, ws, rfl, dp_mono s3 hv, hh, dp_mono s3 hu, hw, fun H4 p4 ts s4 hp4 e4 hts => ?_⟩
      have s34 := s3.trans s4
      have e4F := s4 _ _ e3
      have hys4 := dpAll_mono (hid_mono (D := F) s4) hys
      refine ⟨_, rfl, _, rfl, .ref p4, .ref F, _, 2, 250000, rfl, .lst (.inl (.inl e4)) (dpAll_mono (hid_same _ _) hts), dF e4F hys4, hDd, by decide, by decide, _, rfl, iteF ?_⟩
      refine ⟨_, rfl, _, rfl, (by show 2 ≤ sizeLine; decide), fun p5 hp5 => ?_⟩
      have s5 : Same H4 (upd H4 p5 (.lst [v, .ref a])) := same_upd hp5
      have d5 := pair (s34.trans s5) (p := p5) upd_same
      have e5 := s5 _ _ e4
      have e5F := s5 _ _ e4F
      have hys5 := dpAll_mono (hid_mono (D := F) s5) hys4
      generalize upd H4 p5 (.lst [v, .ref a]) = H5 at s5 d5 e5 e5F hys5 ⊢
      refine ⟨_, rfl, d5, hpD.sh, hpD.noDict, hpD.fits (by decide), _, rfl, rfl, _, rfl, itN (by rw [decide_eq_true rfl]; rfl) ?_⟩
      have htl := dpAll_len hts
      have hdl := debtsTo_len hw ws.length (Nat.le_refl _)
      rw [List.length_map] at htl
      have hdl' : ts.length ≤ 10000 := by
        rw [htl]
        unfold Hs.debts
        omega
      refine ⟨_, rfl, .inl ⟨rfl, _, .inl (.inl e5)⟩, p4, ts, _, rfl, rfl, e5, Nat.lt_of_le_of_lt hdl' (by decide), ?_⟩
      have s6 : Same H3 (upd H5 p4 (.lst (ts ++ [.non]))) := same_put (s4.trans s5) hp4
      have e6F := s6 _ _ e3
      have hys6 := dpAll_mono (hid_mono (D := F) s6) hys
      have s36 := s3.trans s6
      generalize upd H5 p4 (.lst (ts ++ [.non])) = H6 at s6 e6F hys6 s36 ⊢
      refine ⟨_, rfl, _, rfl, rfl, rfl, v, .ref a, h, ws, rfl, dp_mono s36 hv, hh, dp_mono s36 hu, hw, fun H7 p7 us s7 hp7 e7 hus => ?_⟩
      refine ⟨_, rfl, .ref p7, .ref F, _, 2, 250000, rfl, .lst (.inl (.inl e7)) (dpAll_mono (hid_same _ _) hus), dF (s7 _ _ e6F) (dpAll_mono (hid_mono (D := F) s7) hys6), hDd, by decide, by decide, q H7 (s36.trans s7)⟩
end
end K30

/-! #### R -/
namespace K30
open PySem PySem.Spec PyProof.Rows L2
/-- the house without its time doors -/
def Hs.plain (h : Hs) : Hs := ⟨h.rooms, h.doors.filter fun d => decide (d.shift > -1), h.plates, h.steps⟩
theorem HsOk.plain {h : Hs} (k : HsOk h) : HsOk h.plain :=
  { rooms := k.rooms
    few := k.few
    doors := fun d hd => k.doors d ((List.mem_filter.mp hd).1)
    dfew := Nat.le_trans (List.length_filter_le _ _) k.dfew
    plates := k.plates
    some_ := k.some_
    pfew := k.pfew
    steps := k.steps
    sfew := k.sfew }
theorem WalksOk.plain {h : Hs} {ws : List (List Nat)} (k : WalksOk h ws) : WalksOk h.plain ws := ⟨fun w hw => ⟨(k.1 w hw).ne, (k.1 w hw).few, (k.1 w hw).places, (k.1 w hw).go⟩, k.2⟩
theorem plain_none {h : Hs} {ws : List (List Nat)} : h.plain.debts ws = [] := debts_early fun d hd => by
  have := of_decide_eq_true (List.mem_filter.mp hd).2
  omega
section
variable {P : Program} {w : World} {K : PySem.W.Frag} {mg : Str → Option Value} {base : Heap}
def sp_law_right (K : PySem.W.Frag) : Sp := fun vs H Q _ => ∃ (g : Addr) (B : Nat), vs = [.ref g] ∧ Gn H g B ∧ B ≤ 1000000 ∧ ∀ H', Same (hid g H) (hid g H') → Q (.bl true) H'
theorem sc_law_right : FnScope ["_law_generator_here", "_law_house_here", "_law_turn", "_law_walks", "_law_door", "_law_plain"] ["_law_generator_here"] (defScope s_law_right) := ⟨rfl, rfl, rfl, by decide +kernel, rfl, by decide +kernel, by decide +kernel⟩
theorem ok_law_right (c : Cf K mg) (O_law_house : Ok P w K mg base 5 "_law_house" ["_law_generator_here", "_law_most", "_law_places"] (sp_law_house K)) (O_law_random : Ok P w K mg base 2 "_law_random" ["_law_generator_here", "_law_bound"] (sp_law_random K)) (O_law_walk : Ok P w K mg base 3 "_law_walk" ["_law_generator_here", "_law_house_here", "_law_most"] (sp_law_walk K)) (O_law_told_right : OkG P w K mg base 11 "_law_told_right" ["_law_house_here", "_law_walks"] (sp_law_told_right K)) (O_debts : Ok P w K mg base 10 "debts" ["house", "walks"] (sp_debts K)) : OkG P w K mg base 12 "_law_right" ["_law_generator_here"] (sp_law_right K) := by
  obtain ⟨fd, F⟩ := c.d.def_ 40 (d := d_law_right) rfl
  refine ⟨c.g_law_right, fd, ?_, FunD.bindsN F (fun _ _ _ _ _ _ us hl => match us, hl with | [_], _ => rfl), F.kp⟩
  refine okG F sc_law_right (fun vs H Q E h => ?_) (fun cdv A outer s H vs Q E hr hgd h => ?_)
  · obtain ⟨g, B, rfl, _⟩ := h
    rfl
  · obtain ⟨g, B, rfl, hg, hB, q⟩ := h
    refine ⟨_, (pss_cons (ps_set (i := 1) sc_law_right.nd rfl (Or.inr rfl) (pe_c O_law_house hr (pa_cons (pv 0) (pa_cons pe_int (pa_cons pe_int pa_nil)))))
      (pss_cons (ps_setLc (i := 3) (own := [("_law_turn", 2)]) (g := gName 2) (tt := tYes) (by rfl) sc_law_right.nd rfl rfl (sw_true rfl rfl rfl (by decide +kernel)) (pi_range1 (by rfl) c.n_range (pa_cons (pe_op op_add pe_int (pe_c O_law_random hr (pa_cons (pv 0) (pa_cons pe_int pa_nil)))) pa_nil)) (blkOk_by (own := [("_law_turn", 2)]) (N := ["_law_generator_here", "_law_house_here", "_law_turn", "_law_walks", "_law_door", "_law_plain"]) (sc := defScope s_law_right) (by decide +kernel)) (fun _ _ _ _ _ => (pg_name (i := 2) sc_law_right.nd rfl (Or.inl rfl))) (fun _ _ _ _ _ => pts_nil) (fun _ _ _ _ _ => (pe_c O_law_walk hr (pa_cons (pv 0) (pa_cons (pv 1) (pa_cons pe_int pa_nil))))))
      (pss_cons (ps_if (pt_not (pt_val (pe_cG O_law_told_right hr hgd (pa_cons (pv 1) (pa_cons (pv 3) pa_nil))))) (pss_one (ps_ret pe_bl)) pss_nil)
      (pss_cons (ps_set (i := 5) sc_law_right.nd rfl (Or.inl rfl) (pe_tup (pa_cons (pe_ix (ix_tupK (K := K) rfl) (pe_ix (ix_tupK (K := K) rfl) (pv 1) pe_int (fun _ _ => rfl)) pe_int (fun _ _ => rfl)) (pa_cons (pe_lc (own := [("_law_door", 4)]) (g := gName 4) (by rfl) sc_law_right.nd (pi_list (pe_ix (ix_tupK (K := K) rfl) (pe_ix (ix_tupK (K := K) rfl) (pv 1) pe_int (fun _ _ => rfl)) pe_int (fun _ _ => rfl))) (blkOk_by (own := [("_law_door", 4)]) (N := ["_law_generator_here", "_law_house_here", "_law_turn", "_law_walks", "_law_door", "_law_plain"]) (sc := defScope s_law_right) (by decide +kernel)) (fun _ _ _ _ _ => (pg_name (i := 4) sc_law_right.nd rfl (Or.inl rfl))) (fun _ _ _ _ _ => (pts_one (pt_cmpR op_gt (pe_ix (ix_tupK (K := K) rfl) (pv 4) pe_int (fun _ _ => rfl)) (pe_un un_neg pe_int) (nomark _)))) (fun _ _ _ _ _ => (pv 4))) pa_nil))))
      (pss_one (ps_ret (pe_cmpR (op_eqDK (K := K) rfl hr.units) (pe_c O_debts hr (pa_cons (pe_tup (pa_cons (pv 5) (pa_cons (pe_ix (ix_tupK (K := K) rfl) (pv 1) pe_int (fun _ _ => rfl)) (pa_cons (pe_ix (ix_tupK (K := K) rfl) (pv 1) pe_int (fun _ _ => rfl)) pa_nil)))) (pa_cons (pv 3) pa_nil))) (pe_lst pa_nil) (nomark _)))))))), ?_⟩
    refine ⟨_, rfl, g, 4, 4, B, rfl, hg, hB, by omega, by omega, by omega, by omega, fun H1 v h s1 g1 hv hh hR hP hD hS => ?_⟩
    obtain ⟨p, lv, ap, ps, bp, ss, rfl, hp, hlv, hap, hpa, hbp, hsb⟩ := dp_house hv
    obtain ⟨pl, ql, px, rfl, hpl, hql, hpx⟩ := dp_level hlv
    refine ⟨_, rfl, g, 3, _, rfl, g1, by omega, by omega, by omega, fun H2 r e2 g2 hr => ⟨_, _, rfl, rfl, _, rfl, ge62 (by omega), li62 (by omega), fun D hD => ?_⟩⟩
    have nD := g2.ne hD
    have s2 := hid_eqS e2
    refine lc_range (fun i H' => Same (hid g H1) (hid g H') ∧ Gn H' g (B + 10001 + i * 100) ∧ ∃ (xs : List V) (ws : List (List Nat)), H' D = some (.lst xs) ∧ DpAll K (hid D (hid g H')) xs (ws.map lN) ∧ ws.length = i ∧ ∀ z ∈ ws, WalkOk h z)
      ⟨s2.trans (hid_new hD), (g2.put nD).mono (by omega), [], [], upd_same, .nil, rfl, fun z hz => by simp at hz⟩ ?_ ?_
    · rintro i H4 hi ⟨s4, g4, xs, ws, e4, hxs, hwl, hws⟩
      refine ⟨rfl, _, rfl, _, rfl, g, .ref p, h, 5, _, rfl, g4, by omega, dp_mono s4 hv, hh, by omega, by omega, by omega, fun H5 b z s5 g5 hb e5 hz hzl => ?_⟩
      have e5D := hid_some s5 nD e4
      have nbD : b ≠ D := ne_some e4 hb
      have nbg : b ≠ g := g4.ne hb
      have hxl := dpAll_len hxs
      rw [List.length_map] at hxl
      have hD1 : H1 D = none := hid_free s2 nD hD
      refine ⟨xs, e5D, small100 (by omega), hid_put (s4.trans s5) hD1, (g5.put nD).mono (by omega), xs ++ [.ref b], ws ++ [z], upd_same, ?_, by rw [List.length_append, hwl]; rfl, ?_⟩
      · rw [hid_upd_ne nD, hid_upd, List.map_append]
        refine dpAll_snoc (dpAll_mono (hid_mono s5) hxs) (dp_lN_mk (.inl (.inl ?_)))
        rw [hid_ne nbD, hid_ne nbg]
        exact e5
      · intro x hx
        rw [List.mem_append, List.mem_singleton] at hx
        rcases hx with hx | rfl
        · exact hws x hx
        · exact hz
    rintro H3 ⟨s3, g3, xs, ws, e3, hxs, hwl, hws⟩
    have hw : WalksOk h ws := ⟨hws, by omega⟩
    have f3 := s3.trans (hid_same g H3)
    have hu3 : Dp K H3 (.ref D) (walksD ws) := .lst (.inl (.inl e3)) (dpAll_mono ((hid_same _ _).trans (hid_same _ _)) hxs)
    refine ⟨_, rfl, _, rfl, .ref p, .ref D, h, ws, rfl, dp_mono f3 hv, hh, by omega, hu3, hw, fun H6 s6 => ⟨_, rfl, iteF ?_⟩⟩
    have f6 := f3.trans s6
    refine ⟨_, rfl, p, _, _, _, rfl, rfl, same_seqT f6 hp, rfl, pl, _, _, _, rfl, rfl, same_seqT f6 hpl, rfl, ?_⟩
    refine ⟨_, rfl, p, _, _, _, rfl, rfl, same_seqT f6 hp, rfl, pl, _, _, _, rfl, rfl, same_seqT f6 hpl, rfl, ql, rfl, ⟨_, f6.seq hql⟩, fun D2 hD2 => ?_⟩
    refine lc_list (xs := px) (fun i H' => Same H6 H' ∧ ∃ ys, H' D2 = some (.lst ys) ∧ ys.length ≤ i ∧ DpAll K (hid D2 H') ys (((h.doors.take i).filter fun d => decide (d.shift > -1)).map Dr.data)) ⟨same_upd hD2, [], upd_same, Nat.le_refl _, .nil⟩ (fun i H' _ t => (f6.trans t.1).seq hql) ?_ ?_
    · rintro i x H7 hi ⟨s7, ys, e7, hyl, hys⟩
      obtain ⟨e, he, hxe⟩ := dpAll_at hpx hi
      obtain ⟨d, hd, rfl⟩ := map_get he
      have hdm := List.mem_of_getElem? hd
      have hil := (List.getElem?_eq_some_iff.mp hd).1
      have f7 := f6.trans s7
      have hxe' := dp_mono (f6.trans (same_hid s7 hD2)) hxe
      obtain ⟨T, n, rfl, hT, hn⟩ := dp_door hxe
      refine ⟨rfl, _, rfl, T, _, _, _, rfl, rfl, same_seqT f7 hT, rfl, 1, rfl, _, _, rfl, rfl, _, rfl, ?_⟩
      by_cases hs : d.shift > -1
      · refine itP (decide_eq_true hs) ⟨_, rfl, ys, e7, small100 (by omega), same_put s7 hD2, _, upd_same, by rw [List.length_append]; exact Nat.succ_le_succ hyl, ?_⟩
        rw [hid_upd, List.take_add_one, hd, List.filter_append, List.map_append]
        have ef : List.filter (fun d : Dr => decide (d.shift > -1)) (some d).toList = [d] := by simp [hs]
        rw [ef]
        exact dpAll_snoc hys hxe'
      · refine itN (decide_eq_false hs) ⟨s7, ys, e7, by omega, ?_⟩
        rw [List.take_add_one, hd, List.filter_append]
        have ef : List.filter (fun d : Dr => decide (d.shift > -1)) (some d).toList = [] := by simp [hs]
        rw [ef, List.append_nil]
        exact hys
    rintro H7 ⟨s7, ys, e7, hyl, hys⟩
    have hpxl : px.length = h.doors.length := by rw [dpAll_len hpx, List.length_map]
    rw [hpxl, List.take_length] at hys
    have hys7 := dpAll_mono (hid_same _ _) hys
    refine ⟨(by show 2 ≤ sizeLine; decide), fun T2 hT2 => ?_⟩
    have f7 := f6.trans s7
    have s8 : Same H7 (upd H7 T2 (.tup [vN h.rooms, .ref D2])) := same_upd hT2
    have hL : Dp K (upd H7 T2 (.tup [vN h.rooms, .ref D2])) (.ref T2) (levelD h.rooms (h.doors.filter fun d => decide (d.shift > -1))) := .tup (xs := [vN h.rooms, .ref D2]) (.inl (.inl upd_same)) (.cons (.int _) (.cons (.lst (.inl (.inl (s8 _ _ e7))) (dpAll_mono s8 hys7)) .nil))
    have f8 := f7.trans s8
    generalize upd H7 T2 (.tup [vN h.rooms, .ref D2]) = H8 at s8 hL f8 ⊢
    refine ⟨_, rfl, _, rfl, p, _, _, _, rfl, rfl, same_seqT f8 hp, rfl, _, rfl, p, _, _, _, rfl, rfl, same_seqT f8 hp, rfl, (by show 3 ≤ sizeLine; decide), fun T3 hT3 => ?_⟩
    have s9 : Same H8 (upd H8 T3 (.tup [.ref T2, .ref ap, .ref bp])) := same_upd hT3
    have f9 := f8.trans s9
    have hH : Dp K (upd H8 T3 (.tup [.ref T2, .ref ap, .ref bp])) (.ref T3) h.plain.data := .tup (xs := [.ref T2, .ref ap, .ref bp]) (.inl (.inl upd_same)) (.cons (dp_mono s9 hL) (.cons (.lst (f9.seq hap) (dpAll_mono f9 hpa)) (.cons (.lst (f9.seq hbp) (dpAll_mono f9 hsb)) .nil)))
    have s39 := s6.trans (s7.trans (s8.trans s9))
    generalize upd H8 T3 (.tup [.ref T2, .ref ap, .ref bp]) = H9 at s9 hH f9 s39 ⊢
    refine ⟨_, rfl, .ref T3, .ref D, h.plain, ws, rfl, hH, hh.plain, dp_mono s39 hu3, hw.plain, fun H10 p10 ts s10 hp10 e10 hts => ?_⟩
    rw [plain_none] at hts
    cases hts
    refine ⟨Nat.zero_le _, fun pz hpz => ⟨.list [], .list [], nil_dp (by rw [upd_ne (ne_some e10 hpz).symm]; exact e10), nil_dp upd_same, by decide, by decide, ?_⟩⟩
    exact q _ (s1.trans (s3.trans (hid_mono (s39.trans (s10.trans (same_upd hpz))))))
end
end K30

/-! #### S -/
namespace K30
open PySem PySem.Spec PyProof.Rows L2
/-! ### houses and walks that are written -/
theorem hsOk_of (h : Hs) (e : 1 ≤ h.rooms ∧ h.rooms ≤ 100 ∧ (∀ d ∈ h.doors, (d.needs.Pairwise (· < ·) ∧ (∀ x ∈ d.needs, x < h.rooms) ∧ d.needs.length ≤ 100) ∧ d.room < h.rooms ∧ (d.shift = -1 ∨ d.shift = 0 ∨ d.shift = 1)) ∧ h.doors.length ≤ 100 ∧
    (∀ l ∈ h.plates, l.Pairwise (· < ·) ∧ (∀ x ∈ l, x < h.rooms) ∧ l.length ≤ 100) ∧ h.plates ≠ [] ∧ h.plates.length ≤ 100 ∧
    (∀ s ∈ h.steps, s.place < h.plates.length ∧ s.goal < h.plates.length ∧ s.place ≠ s.goal ∧ s.needs.Pairwise (· < ·) ∧ (∀ x ∈ s.needs, x < h.rooms) ∧ s.needs.length ≤ 100) ∧ h.steps.length ≤ 100) : HsOk h := by
  obtain ⟨h1, h2, h3, h4, h5, h6, h7, h8, h9⟩ := e
  exact ⟨h1, h2, fun d hd => ⟨(h3 d hd).1, (h3 d hd).2.1, (h3 d hd).2.2⟩, h4, h5, h6, h7, fun s hs => ⟨(h8 s hs).1, (h8 s hs).2.1, (h8 s hs).2.2.1, (h8 s hs).2.2.2⟩, h9⟩
theorem ok_back : HsOk back := hsOk_of back (by decide +kernel)
theorem ok_late : HsOk late := hsOk_of late (by decide +kernel)
def walkCk (h : Hs) (w : List Nat) : Bool := decide (w ≠ []) && decide (w.length ≤ 100) && w.all (fun x => decide (x < h.plates.length)) && (List.range w.length).all fun i => match w[i]?, w[i + 1]? with
  | some a, some b => a == b || h.steps.any fun s => s.place == a && s.goal == b
  | _, _ => true
theorem walkOk_of {h : Hs} {w : List Nat} (e : walkCk h w = true) : WalkOk h w := by
  unfold walkCk at e
  simp only [Bool.and_eq_true, decide_eq_true_eq, List.all_eq_true, List.mem_range] at e
  obtain ⟨⟨⟨h1, h2⟩, h3⟩, h4⟩ := e
  refine ⟨h1, h2, h3, fun i a b ha hb => ?_⟩
  have := h4 i (List.getElem?_eq_some_iff.mp ha).1
  rw [ha, hb] at this
  simp only [Bool.or_eq_true, beq_iff_eq, List.any_eq_true, Bool.and_eq_true] at this
  exact this
theorem walksOk_of (h : Hs) (ws : List (List Nat)) (e : (ws.all (walkCk h) && decide (ws.length ≤ 100)) = true) : WalksOk h ws := by
  simp only [Bool.and_eq_true, List.all_eq_true, decide_eq_true_eq] at e
  exact ⟨fun w hw => walkOk_of (e.1 w hw), e.2⟩
/-! ### readings that build data -/
section
variable {K : PySem.W.Frag} {σ : L2.St} {H : Hp}
def Bd (K : PySem.W.Frag) (σ : L2.St) (H : Hp) (t : TE) (d : PyData) : Prop := ∀ H1, Same H H1 → ∀ Q : VK, (∀ H' v, Same H1 H' → Dp K H' v d → Q v H') → t σ H1 Q
def BdA (K : PySem.W.Frag) (σ : L2.St) (H : Hp) (t : TA) (ds : List PyData) : Prop := ∀ H1, Same H H1 → ∀ Q : List V → Hp → Prop, (∀ H' vs, Same H1 H' → DpAll K H' vs ds → Q vs H') → t σ H1 Q
theorem bd_int {i : Int} : Bd K σ H (tC (.int i)) (.int i) := fun H1 _ Q q => q H1 _ (Same.refl _) (.int i)
theorem bd_neg {i : Int} : Bd K σ H (tUn (rU fun i => .int (-i)) (tC (.int i))) (.int (-i)) := fun H1 _ Q q => ⟨i, rfl, q H1 _ (Same.refl _) (.int _)⟩
theorem bd_var {i : Nat} {v : V} {d : PyData} (e : σ[i]? = some (some v)) (h : Dp K H v d) : Bd K σ H (tVar i) d := fun H1 s Q q => ⟨v, e, q H1 v (Same.refl _) (dp_mono s h)⟩
theorem bda_nil : BdA K σ H tNil [] := fun H1 _ Q q => q H1 [] (Same.refl _) .nil
theorem bda_cons {t : TE} {u : TA} {d : PyData} {ds : List PyData} (a : Bd K σ H t d) (b : BdA K σ H u ds) : BdA K σ H (tCons t u) (d :: ds) := fun H1 s Q q => a H1 s _ fun H2 v s2 hv => b H2 (s.trans s2) _ fun H3 vs s3 hvs => q H3 (v :: vs) (s2.trans s3) (.cons (dp_mono s3 hv) hvs)
theorem bd_lst {t : TA} {ds : List PyData} (a : BdA K σ H t ds) (hl : ds.length ≤ sizeLine) : Bd K σ H (tLst t) (.list ds) := fun H1 s Q q => a H1 s _ fun H2 vs s2 hvs => ⟨by rw [dpAll_len hvs]; exact hl, fun p hp => q _ _ (s2.trans (same_upd hp)) (.lst (.inl (.inl upd_same)) (dpAll_mono (same_upd hp) hvs))⟩
theorem bd_tup {t : TA} {ds : List PyData} (a : BdA K σ H t ds) (hl : ds.length ≤ sizeLine) : Bd K σ H (tTup t) (.tuple ds) := fun H1 s Q q => a H1 s _ fun H2 vs s2 hvs => ⟨by rw [dpAll_len hvs]; exact hl, fun p hp => q _ _ (s2.trans (same_upd hp)) (.tup (.inl (.inl upd_same)) (dpAll_mono (same_upd hp) hvs))⟩
theorem bd_opened {th tw : TE} {hs : Hs} {ws : List (List Nat)} {z : List Nat} {i t : Nat} {o : Option Nat} (a : Bd K σ H th hs.data) (b : Bd K σ H tw (walksD ws)) (hh : HsOk hs) (hw : WalksOk hs ws) (hz : ws[i]? = some z) (ht : t + 1 < z.length) (e : hs.opened ws z t = o) :
    Bd K σ H (tCall (sp_opened_by K) [] E0 (tCons th (tCons tw (tCons (tC (.int i)) (tCons (tC (.int t)) tNil))))) (optD o) := fun H1 s Q q =>
  a H1 s _ fun H2 v s2 hv => b H2 (s.trans s2) _ fun H3 u s3 hu => ⟨v, u, hs, ws, z, i, t, rfl, dp_mono s3 hv, hh, hu, hw, hz, ht, fun H4 s4 => by
    rw [e]
    exact q H4 _ (s2.trans (s3.trans s4)) (dp_opt o)⟩
theorem bd_debts {th tw : TE} {hs : Hs} {ws : List (List Nat)} {l : List (Nat × Nat × Nat)} (a : Bd K σ H th hs.data) (b : Bd K σ H tw (walksD ws)) (hh : HsOk hs) (hw : WalksOk hs ws) (e : hs.debts ws = l) :
    Bd K σ H (tCall (sp_debts K) [] E0 (tCons th (tCons tw tNil))) (.list (l.map tripD)) := fun H1 s Q q =>
  a H1 s _ fun H2 v s2 hv => b H2 (s.trans s2) _ fun H3 u s3 hu => ⟨v, u, hs, ws, rfl, dp_mono s3 hv, hh, hu, hw, fun H4 p xs s4 hp e4 hxs => by
    rw [e] at hxs
    exact q H4 _ (s2.trans (s3.trans s4)) (.lst (.inl (.inl e4)) (dpAll_mono (hid_same _ _) hxs))⟩
/-- a list that is new, with what it holds -/
theorem bdf_cat {ta tb : TE} {xs ys : List PyData} (a : Bd K σ H ta (.list xs)) (b : Bd K σ H tb (.list ys)) (hl : xs.length + ys.length ≤ sizeLine) (H1 : Hp) (s : Same H H1) (Q : VK) (q : ∀ H' p vs, Same H1 H' → H1 p = none → H' p = some (.lst vs) → DpAll K (hid p H') vs (xs ++ ys) → Q (.ref p) H') :
    tOp (rCatS K) ta tb σ H1 Q := a H1 s _ fun H2 x s2 hx => b H2 (s.trans s2) _ fun H3 y s3 hy => by
  obtain ⟨l, vs, rfl, hl1, hv1⟩ := dp_list (dp_mono s3 hx)
  obtain ⟨m, us, rfl, hl2, hv2⟩ := dp_list hy
  refine ⟨l, m, vs, us, rfl, rfl, hl1, hl2, by rw [dpAll_len hv1, dpAll_len hv2]; exact hl, fun p hp => ?_⟩
  have s4 := s2.trans s3
  exact q _ p (vs ++ us) (s4.trans (same_upd hp)) (s4.free hp) upd_same (by
    rw [hid_upd]
    exact dpAll_mono (same_hid (Same.refl H3) hp) (dpAll_app hv1 hv2))
theorem bd_cat {ta tb : TE} {xs ys : List PyData} (a : Bd K σ H ta (.list xs)) (b : Bd K σ H tb (.list ys)) (hl : xs.length + ys.length ≤ sizeLine) : Bd K σ H (tOp (rCatS K) ta tb) (.list (xs ++ ys)) := fun H1 s Q q =>
  bdf_cat a b hl H1 s Q fun H' p vs s' _ e hd => q H' _ s' (.lst (.inl (.inl e)) (dpAll_mono (hid_same _ _) hd))
theorem seq_set {t : TE} {r : TS} {D : Ends} {i : Nat} {d : PyData} (B : Bd K σ H t d) (k : ∀ H' v, Same H H' → Dp K H' v d → r D (σ.set i (some v)) H') : tSeq (tAsg t (gName i)) r D σ H := B H (Same.refl H) _ k
theorem seq_setF {ta tb : TE} {r : TS} {D : Ends} {i : Nat} {xs ys : List PyData} (a : Bd K σ H ta (.list xs)) (b : Bd K σ H tb (.list ys)) (hl : xs.length + ys.length ≤ sizeLine) (k : ∀ H' p vs, Same H H' → H p = none → H' p = some (.lst vs) → DpAll K (hid p H') vs (xs ++ ys) → r D (σ.set i (some (.ref p))) H') :
    tSeq (tAsg (tOp (rCatS K) ta tb) (gName i)) r D σ H := bdf_cat a b hl H (Same.refl H) _ k
end
theorem same_of_hid {g : Addr} {H H1 H2 : Hp} (s : Same H H1) (s2 : Same (hid g H1) (hid g H2)) (h : H g = none) : Same H H2 := fun b o e => by
  have n : b ≠ g := fun z => by rw [z, h] at e; cases e
  exact hid_some s2 n (s b o e)
def lastD : PyData := .list [.int 2, .list [.tuple [.int 0, .int 0, .int 2]], .int 0, .list [], .int 3, .int 1, .list [], .list [.tuple [.int 0, .int 1, .int 3], .tuple [.int 1, .int 0, .int 2]], .int 3, .list [.tuple [.int 0, .int 0, .int 3]], .list []]
theorem plain_last : Plain 3 1000 lastD := ⟨⟨by decide +kernel, by decide +kernel⟩, by decide +kernel, by decide +kernel, by decide +kernel⟩
section
variable {P : Program} {w : World} {K : PySem.W.Frag} {mg : Str → Option Value} {base : Heap}
def sp_law (K : PySem.W.Frag) : Sp := fun vs H Q _ => ∃ (a : Addr) (ns : List Int), vs = [.ref a] ∧ SqL K H a (ns.map V.int) ∧ ∀ H', Q (.bl true) H'
theorem sc_law : FnScope ["_law_script", "_law_index", "_law_back", "_law_told", "_law_late"] ["_law_script"] (defScope s_law) := ⟨rfl, rfl, rfl, by decide +kernel, rfl, by decide +kernel, by decide +kernel⟩
theorem okL_law (c : Cf K mg) (O_law_generator : Ok P w K mg base 2 "_law_generator" ["_law_script", "_law_index"] (sp_law_generator K)) (O_law_right : OkG P w K mg base 12 "_law_right" ["_law_generator_here"] (sp_law_right K)) (O_opened_by : Ok P w K mg base 10 "opened_by" ["house", "walks", "number", "tick"] (sp_opened_by K)) (O_debts : Ok P w K mg base 10 "debts" ["house", "walks"] (sp_debts K)) (O_law_same : OkG P w K mg base 1 "_law_same" ["_law_told", "_law_due"] (sp_law_same K)) {fd : FuncData} (F : FunD K d_law.name d_law.qual d_law.params d_law.body d_law.scope (He.DefD.dvs K d_law) (He.DefD.kws K d_law) (He.fAd K d_law.at_) fd) : FnOkG P w K mg base CX0 13 (He.ga K "law") fd ["_law_script"] (sp_law K) := by
  refine okG F sc_law (fun vs H Q E h => ?_) (fun cdv A outer s H vs Q E hr hgd h => ?_)
  · obtain ⟨a, ns, rfl, _⟩ := h
    rfl
  · obtain ⟨a, ns, rfl, ha, q⟩ := h
    refine ⟨_, (pss_cons (ps_for PassesOwn.never rfl (pi_range1 (by rfl) c.n_range (pa_cons pe_int pa_nil)) (pg_name (i := 1) sc_law.nd rfl (Or.inl rfl)) (pss_one (ps_if (pt_not (pt_val (pe_cG O_law_right hr hgd (pa_cons (pe_c O_law_generator hr (pa_cons (pv 0) (pa_cons (pv 1) pa_nil))) pa_nil)))) (pss_one (ps_ret pe_bl)) pss_nil)))
      (pss_cons (ps_set (i := 2) sc_law.nd rfl (Or.inl rfl) (pe_tup (pa_cons (pe_tup (pa_cons pe_int (pa_cons (pe_lst (pa_cons (pe_tup (pa_cons (pe_lst (pa_cons pe_int pa_nil)) (pa_cons pe_int (pa_cons (pe_un un_neg pe_int) pa_nil)))) pa_nil)) pa_nil))) (pa_cons (pe_lst (pa_cons (pe_lst pa_nil) (pa_cons (pe_lst (pa_cons pe_int pa_nil)) pa_nil))) (pa_cons (pe_lst (pa_cons (pe_tup (pa_cons pe_int (pa_cons pe_int (pa_cons (pe_lst (pa_cons pe_int pa_nil)) pa_nil)))) (pa_cons (pe_tup (pa_cons pe_int (pa_cons pe_int (pa_cons (pe_lst pa_nil) pa_nil)))) pa_nil))) pa_nil)))))
      (pss_cons (ps_set (i := 3) sc_law.nd rfl (Or.inl rfl) (pe_lst (pa_cons (pe_c O_opened_by hr (pa_cons (pv 2) (pa_cons (pe_lst (pa_cons (pe_lst (pa_cons pe_int (pa_cons pe_int pa_nil))) pa_nil)) (pa_cons pe_int (pa_cons pe_int pa_nil))))) (pa_cons (pe_c O_debts hr (pa_cons (pv 2) (pa_cons (pe_lst (pa_cons (pe_lst (pa_cons pe_int (pa_cons pe_int pa_nil))) pa_nil)) pa_nil))) (pa_cons (pe_c O_opened_by hr (pa_cons (pv 2) (pa_cons (pe_lst (pa_cons (pe_lst (pa_cons pe_int (pa_cons pe_int pa_nil))) pa_nil)) (pa_cons pe_int (pa_cons pe_int pa_nil))))) (pa_cons (pe_c O_debts hr (pa_cons (pv 2) (pa_cons (pe_lst pa_nil) pa_nil))) pa_nil))))))
      (pss_cons (ps_set (i := 3) sc_law.nd rfl (Or.inl rfl) (pe_op (op_catS (K := K) rfl) (pv 3) (pe_lst (pa_cons (pe_c O_opened_by hr (pa_cons (pv 2) (pa_cons (pe_lst (pa_cons (pe_lst (pa_cons pe_int (pa_cons pe_int (pa_cons pe_int pa_nil)))) (pa_cons (pe_lst (pa_cons pe_int (pa_cons pe_int (pa_cons pe_int pa_nil)))) pa_nil))) (pa_cons pe_int (pa_cons pe_int pa_nil))))) (pa_cons (pe_c O_opened_by hr (pa_cons (pv 2) (pa_cons (pe_lst (pa_cons (pe_lst (pa_cons pe_int (pa_cons pe_int pa_nil))) pa_nil)) (pa_cons pe_int (pa_cons pe_int pa_nil))))) pa_nil)))))
      (pss_cons (ps_set (i := 3) sc_law.nd rfl (Or.inl rfl) (pe_op (op_catS (K := K) rfl) (pv 3) (pe_lst (pa_cons (pe_c O_debts hr (pa_cons (pv 2) (pa_cons (pe_lst (pa_cons (pe_lst (pa_cons pe_int (pa_cons pe_int pa_nil))) pa_nil)) pa_nil))) (pa_cons (pe_c O_debts hr (pa_cons (pv 2) (pa_cons (pe_lst (pa_cons (pe_lst (pa_cons pe_int (pa_cons pe_int (pa_cons pe_int pa_nil)))) (pa_cons (pe_lst (pa_cons pe_int (pa_cons pe_int pa_nil))) pa_nil))) pa_nil))) pa_nil)))))
      (pss_cons (ps_set (i := 4) sc_law.nd rfl (Or.inl rfl) (pe_tup (pa_cons (pe_tup (pa_cons pe_int (pa_cons (pe_lst (pa_cons (pe_tup (pa_cons (pe_lst (pa_cons pe_int pa_nil)) (pa_cons pe_int (pa_cons (pe_un un_neg pe_int) pa_nil)))) (pa_cons (pe_tup (pa_cons (pe_lst (pa_cons pe_int pa_nil)) (pa_cons pe_int (pa_cons (pe_un un_neg pe_int) pa_nil)))) pa_nil))) pa_nil))) (pa_cons (pe_lst (pa_cons (pe_lst pa_nil) (pa_cons (pe_lst pa_nil) (pa_cons (pe_lst (pa_cons pe_int pa_nil)) pa_nil)))) (pa_cons (pe_lst (pa_cons (pe_tup (pa_cons pe_int (pa_cons pe_int (pa_cons (pe_lst (pa_cons pe_int pa_nil)) pa_nil)))) (pa_cons (pe_tup (pa_cons pe_int (pa_cons pe_int (pa_cons (pe_lst pa_nil) pa_nil)))) pa_nil))) pa_nil)))))
      (pss_cons (ps_set (i := 3) sc_law.nd rfl (Or.inl rfl) (pe_op (op_catS (K := K) rfl) (pv 3) (pe_lst (pa_cons (pe_c O_opened_by hr (pa_cons (pv 4) (pa_cons (pe_lst (pa_cons (pe_lst (pa_cons pe_int (pa_cons pe_int pa_nil))) (pa_cons (pe_lst (pa_cons pe_int (pa_cons pe_int (pa_cons pe_int pa_nil)))) pa_nil))) (pa_cons pe_int (pa_cons pe_int pa_nil))))) (pa_cons (pe_c O_debts hr (pa_cons (pv 4) (pa_cons (pe_lst (pa_cons (pe_lst (pa_cons pe_int (pa_cons pe_int pa_nil))) (pa_cons (pe_lst (pa_cons pe_int (pa_cons pe_int (pa_cons pe_int pa_nil)))) pa_nil))) pa_nil))) pa_nil)))))
      (pss_cons (ps_expr (pe_bm PySem.F.plainAttrs_list PySem.F.slot_list_append PySem.F.type_list_append mt_append (pv 3) (pa_cons (pe_c O_debts hr (pa_cons (pv 4) (pa_cons (pe_lst (pa_cons (pe_lst (pa_cons pe_int (pa_cons pe_int pa_nil))) (pa_cons (pe_lst (pa_cons pe_int (pa_cons pe_int (pa_cons pe_int (pa_cons pe_int (pa_cons pe_int pa_nil)))))) pa_nil))) pa_nil))) pa_nil)))
      (pss_one (ps_ret (pe_cG O_law_same hr hgd (pa_cons (pv 3) (pa_cons (pe_lst (pa_cons pe_int (pa_cons (pe_lst (pa_cons (pe_tup (pa_cons pe_int (pa_cons pe_int (pa_cons pe_int pa_nil)))) pa_nil)) (pa_cons pe_int (pa_cons (pe_lst pa_nil) (pa_cons pe_int (pa_cons pe_int (pa_cons (pe_lst pa_nil) (pa_cons (pe_lst (pa_cons (pe_tup (pa_cons pe_int (pa_cons pe_int (pa_cons pe_int pa_nil)))) (pa_cons (pe_tup (pa_cons pe_int (pa_cons pe_int (pa_cons pe_int pa_nil)))) pa_nil))) (pa_cons pe_int (pa_cons (pe_lst (pa_cons (pe_tup (pa_cons pe_int (pa_cons pe_int (pa_cons pe_int pa_nil)))) pa_nil)) (pa_cons (pe_lst pa_nil) pa_nil)))))))))))) pa_nil))))))))))))), ?_⟩
    refine ⟨_, rfl, ge62 (by decide), li62 (by decide), ?_⟩
    refine for_range (fun i σ H' => Same H H' ∧ ∃ o : Option V, σ = [some (.ref a), o, none, none, none]) ⟨Same.refl H, none, rfl⟩ ?_ ?_
    · rintro i σ H1 hi ⟨s1, o, rfl⟩
      have hi' : i < 3 := hi
      exact ⟨_, rfl, _, rfl, a, ns, i, congrArg (fun n : Int => [V.ref a, V.int n]) (by omega), s1.seq ha, by omega, fun H2 g s2 hg hG => ⟨g, 100000, rfl, hG, by decide, fun H3 s3 => ⟨_, rfl, iteF ⟨s1.trans (same_of_hid s2 s3 hg), _, rfl⟩⟩⟩⟩
    · rintro σ H1 ⟨_, o, rfl⟩
      refine seq_set (K := K) (d := back.data) (bd_tup (bda_cons (bd_tup (bda_cons bd_int (bda_cons (bd_lst (bda_cons (bd_tup (bda_cons (bd_lst (bda_cons bd_int bda_nil) (by decide)) (bda_cons bd_int (bda_cons bd_neg bda_nil))) (by decide)) bda_nil) (by decide)) bda_nil)) (by decide)) (bda_cons (bd_lst (bda_cons (bd_lst bda_nil (by decide)) (bda_cons (bd_lst (bda_cons bd_int bda_nil) (by decide)) bda_nil)) (by decide)) (bda_cons (bd_lst (bda_cons (bd_tup (bda_cons bd_int (bda_cons bd_int (bda_cons (bd_lst (bda_cons bd_int bda_nil) (by decide)) bda_nil))) (by decide)) (bda_cons (bd_tup (bda_cons bd_int (bda_cons bd_int (bda_cons (bd_lst bda_nil (by decide)) bda_nil))) (by decide)) bda_nil)) (by decide)) bda_nil))) (by decide)) fun H2 vb s2 hb => ?_
      refine seq_set (K := K) (bd_lst (bda_cons (bd_opened (hs := back) (ws := [[0, 1]]) (z := [0, 1]) (i := 0) (t := 0) (bd_var rfl hb) (bd_lst (bda_cons (bd_lst (bda_cons bd_int (bda_cons bd_int bda_nil)) (by decide)) bda_nil) (by decide)) ok_back (walksOk_of back [[0, 1]] (by decide +kernel)) rfl (by decide) law1) (bda_cons (bd_debts (hs := back) (ws := [[0, 1]]) (bd_var rfl hb) (bd_lst (bda_cons (bd_lst (bda_cons bd_int (bda_cons bd_int bda_nil)) (by decide)) bda_nil) (by decide)) ok_back (walksOk_of back [[0, 1]] (by decide +kernel)) law2) (bda_cons (bd_opened (hs := back) (ws := [[0, 0]]) (z := [0, 0]) (i := 0) (t := 0) (bd_var rfl hb) (bd_lst (bda_cons (bd_lst (bda_cons bd_int (bda_cons bd_int bda_nil)) (by decide)) bda_nil) (by decide)) ok_back (walksOk_of back [[0, 0]] (by decide +kernel)) rfl (by decide) law3) (bda_cons (bd_debts (hs := back) (ws := []) (bd_var rfl hb) (bd_lst bda_nil (by decide)) ok_back (walksOk_of back [] (by decide +kernel)) law4) bda_nil)))) (by decide)) fun H3 vt s3 ht => ?_
      have hb3 := dp_mono s3 hb
      refine seq_set (K := K) (bd_cat (bd_var rfl ht) (bd_lst (bda_cons (bd_opened (hs := back) (ws := [[0, 1, 1], [0, 0, 1]]) (z := [0, 0, 1]) (i := 1) (t := 1) (bd_var rfl hb3) (bd_lst (bda_cons (bd_lst (bda_cons bd_int (bda_cons bd_int (bda_cons bd_int bda_nil))) (by decide)) (bda_cons (bd_lst (bda_cons bd_int (bda_cons bd_int (bda_cons bd_int bda_nil))) (by decide)) bda_nil)) (by decide)) ok_back (walksOk_of back [[0, 1, 1], [0, 0, 1]] (by decide +kernel)) rfl (by decide) law5) (bda_cons (bd_opened (hs := back) (ws := [[1, 0]]) (z := [1, 0]) (i := 0) (t := 0) (bd_var rfl hb3) (bd_lst (bda_cons (bd_lst (bda_cons bd_int (bda_cons bd_int bda_nil)) (by decide)) bda_nil) (by decide)) ok_back (walksOk_of back [[1, 0]] (by decide +kernel)) rfl (by decide) law6) bda_nil)) (by decide)) (by decide)) fun H4 vt2 s4 ht2 => ?_
      have hb4 := dp_mono s4 hb3
      refine seq_set (K := K) (bd_cat (bd_var rfl ht2) (bd_lst (bda_cons (bd_debts (hs := back) (ws := [[1, 0]]) (bd_var rfl hb4) (bd_lst (bda_cons (bd_lst (bda_cons bd_int (bda_cons bd_int bda_nil)) (by decide)) bda_nil) (by decide)) ok_back (walksOk_of back [[1, 0]] (by decide +kernel)) law7) (bda_cons (bd_debts (hs := back) (ws := [[0, 0, 1], [0, 1]]) (bd_var rfl hb4) (bd_lst (bda_cons (bd_lst (bda_cons bd_int (bda_cons bd_int (bda_cons bd_int bda_nil))) (by decide)) (bda_cons (bd_lst (bda_cons bd_int (bda_cons bd_int bda_nil)) (by decide)) bda_nil)) (by decide)) ok_back (walksOk_of back [[0, 0, 1], [0, 1]] (by decide +kernel)) law8) bda_nil)) (by decide)) (by decide)) fun H5 vt3 s5 ht3 => ?_
      refine seq_set (K := K) (d := late.data) (bd_tup (bda_cons (bd_tup (bda_cons bd_int (bda_cons (bd_lst (bda_cons (bd_tup (bda_cons (bd_lst (bda_cons bd_int bda_nil) (by decide)) (bda_cons bd_int (bda_cons bd_neg bda_nil))) (by decide)) (bda_cons (bd_tup (bda_cons (bd_lst (bda_cons bd_int bda_nil) (by decide)) (bda_cons bd_int (bda_cons bd_neg bda_nil))) (by decide)) bda_nil)) (by decide)) bda_nil)) (by decide)) (bda_cons (bd_lst (bda_cons (bd_lst bda_nil (by decide)) (bda_cons (bd_lst bda_nil (by decide)) (bda_cons (bd_lst (bda_cons bd_int bda_nil) (by decide)) bda_nil))) (by decide)) (bda_cons (bd_lst (bda_cons (bd_tup (bda_cons bd_int (bda_cons bd_int (bda_cons (bd_lst (bda_cons bd_int bda_nil) (by decide)) bda_nil))) (by decide)) (bda_cons (bd_tup (bda_cons bd_int (bda_cons bd_int (bda_cons (bd_lst bda_nil (by decide)) bda_nil))) (by decide)) bda_nil)) (by decide)) bda_nil))) (by decide)) fun H6 vl s6 hl => ?_
      have ht4 := dp_mono s6 ht3
      refine seq_setF (K := K) (bd_var rfl ht4) (bd_lst (bda_cons (bd_opened (hs := late) (ws := [[0, 1], [1, 1, 2]]) (z := [0, 1]) (i := 0) (t := 0) (bd_var rfl hl) (bd_lst (bda_cons (bd_lst (bda_cons bd_int (bda_cons bd_int bda_nil)) (by decide)) (bda_cons (bd_lst (bda_cons bd_int (bda_cons bd_int (bda_cons bd_int bda_nil))) (by decide)) bda_nil)) (by decide)) ok_late (walksOk_of late [[0, 1], [1, 1, 2]] (by decide +kernel)) rfl (by decide) law9) (bda_cons (bd_debts (hs := late) (ws := [[0, 1], [1, 1, 2]]) (bd_var rfl hl) (bd_lst (bda_cons (bd_lst (bda_cons bd_int (bda_cons bd_int bda_nil)) (by decide)) (bda_cons (bd_lst (bda_cons bd_int (bda_cons bd_int (bda_cons bd_int bda_nil))) (by decide)) bda_nil)) (by decide)) ok_late (walksOk_of late [[0, 1], [1, 1, 2]] (by decide +kernel)) law10) bda_nil)) (by decide)) (by decide) fun H7 p vs s7 hp e7 hvs => ?_
      have hl7 := dp_mono s7 hl
      refine ⟨_, rfl, .inl ⟨rfl, _, .inl (.inl e7)⟩, _, rfl, ?_⟩
      refine (show BdA K _ H7 _ [walksD [[0, 1], [1, 1, 1, 1, 2]]] from (bda_cons (bd_lst (bda_cons (bd_lst (bda_cons bd_int (bda_cons bd_int bda_nil)) (by decide)) (bda_cons (bd_lst (bda_cons bd_int (bda_cons bd_int (bda_cons bd_int (bda_cons bd_int (bda_cons bd_int bda_nil))))) (by decide)) bda_nil)) (by decide)) bda_nil)) H7 (Same.refl H7) _ fun H8 us s8 hus => ?_
      cases hus with
      | cons hy hus =>
      cases hus
      refine ⟨vl, _, late, [[0, 1], [1, 1, 1, 1, 2]], rfl, dp_mono s8 hl7, ok_late, hy, walksOk_of late _ (by decide +kernel), fun H9 p9 xs9 s9 hp9 e9 hxs9 => ?_⟩
      rw [law11] at hxs9
      cases hxs9
      have s79 := s8.trans s9
      have e9p := s79 _ _ e7
      have n9 : p9 ≠ p := ne_some (s8 _ _ e7) hp9
      have hvl := dpAll_len hvs
      have hvs9 := dpAll_mono (hid_mono (D := p) s79) hvs
      refine ⟨p, vs, _, rfl, rfl, e9p, by rw [hvl]; decide, ?_⟩
      have sp : Same (hid p H9) (upd H9 p (.lst (vs ++ [.ref p9]))) := by
        rw [← hid_upd p H9 (.lst (vs ++ [.ref p9]))]
        exact hid_same _ _
      have d9 : Dp K (upd H9 p (.lst (vs ++ [.ref p9]))) (.ref p9) (.list []) := nil_dp (by rw [upd_ne n9]; exact e9)
      have dt : Dp K (upd H9 p (.lst (vs ++ [.ref p9]))) (.ref p) lastD := .lst (xs := vs ++ [.ref p9]) (.inl (.inl upd_same)) (dpAll_snoc (dpAll_mono sp hvs9) d9)
      refine ⟨_, rfl, ?_⟩
      refine (show BdA K _ (upd H9 p (.lst (vs ++ [.ref p9]))) _ [lastD] from bda_cons (bd_lst (bda_cons bd_int (bda_cons (bd_lst (bda_cons (bd_tup (bda_cons bd_int (bda_cons bd_int (bda_cons bd_int bda_nil))) (by decide)) bda_nil) (by decide)) (bda_cons bd_int (bda_cons (bd_lst bda_nil (by decide)) (bda_cons bd_int (bda_cons bd_int (bda_cons (bd_lst bda_nil (by decide)) (bda_cons (bd_lst (bda_cons (bd_tup (bda_cons bd_int (bda_cons bd_int (bda_cons bd_int bda_nil))) (by decide)) (bda_cons (bd_tup (bda_cons bd_int (bda_cons bd_int (bda_cons bd_int bda_nil))) (by decide)) bda_nil)) (by decide)) (bda_cons bd_int (bda_cons (bd_lst (bda_cons (bd_tup (bda_cons bd_int (bda_cons bd_int (bda_cons bd_int bda_nil))) (by decide)) bda_nil) (by decide)) (bda_cons (bd_lst bda_nil (by decide)) bda_nil))))))))))) (by decide)) bda_nil) _ (Same.refl _) _ fun H10 us s10 hus => ?_
      cases hus with
      | cons hx hus =>
      cases hus
      exact ⟨_, _, lastD, 3, 1000, rfl, dp_mono s10 dt, hx, plain_last, by decide, by decide, q H10⟩
end
end K30

/-! #### T -/
set_option maxHeartbeats 0
namespace K30
open PySem PySem.Spec PyProof.Rows L2
/-! ### the head's run -/
abbrev R : PySem.W.OpenRow := PySem.W.OpenLaw.row PySem.Challenge.rw_timedoors_k30_whole_debts
abbrev hk : PySem.W.Hook := He.hookD 4 fa fn
def ob (s : PySem.W.SharedT) : He.AlD := He.obsDG 4 fa fn (HandSHeadRun.getT s)
theorem ob_eq (s : PySem.W.SharedT) : ob s = hk.obs s.abs := He.obsDG_eq (HandSHeadRun.getT_eq s)
theorem run (w : World) : HandSHeadRun.RunEq R (PySem.W.view R.prog [50]) hk ob 4000 (loose1 ++ loose2) w := by
  intro os
  kernel_rfl
/-! ### all promises, one upon the other -/
theorem all_ok {P : Program} {w : World} {K : PySem.W.Frag} {mg : Str → Option Value} {base : Heap} (c : Cf K mg) {fd : FuncData}
    (F : FunD K d_law.name d_law.qual d_law.params d_law.body d_law.scope (He.DefD.dvs K d_law) (He.DefD.kws K d_law) (He.fAd K d_law.at_) fd) : FnOkG P w K mg base CX0 13 (He.ga K "law") fd ["_law_script"] (sp_law K) := by
  have O_is_whole := ok_is_whole (P := P) (w := w) (base := base) c
  have O_is_between := ok_is_between (P := P) (w := w) (base := base) c O_is_whole
  have O_is_room := ok_is_room (P := P) (w := w) (base := base) c O_is_between
  have O_is_lights := ok_is_lights (P := P) (w := w) (base := base) c O_is_room
  have O_door_fits := ok_door_fits (P := P) (w := w) (base := base) c O_is_lights O_is_room O_is_between
  have O_level_fits := ok_level_fits (P := P) (w := w) (base := base) c O_is_between O_door_fits
  have O_step_fits := ok_step_fits (P := P) (w := w) (base := base) c O_is_between O_is_lights
  have O_house_fits := ok_house_fits (P := P) (w := w) (base := base) c O_level_fits O_is_lights O_step_fits
  have O_check_house := ok_check_house (P := P) (w := w) (base := base) c O_house_fits
  have O_is_place := ok_is_place (P := P) (w := w) (base := base) c O_is_between
  have O_mask_of := ok_mask_of (P := P) (w := w) (base := base) c
  have O_masked_doors := ok_masked_doors (P := P) (w := w) (base := base) c O_mask_of
  have O_sent_from := ok_sent_from (P := P) (w := w) (base := base) c
  have O_closed_at := ok_closed_at (P := P) (w := w) (base := base) c O_sent_from
  have O_light_of := ok_light_of (P := P) (w := w) (base := base) c O_closed_at O_sent_from
  have O_needs_between := ok_needs_between (P := P) (w := w) (base := base) c
  have O_is_walk_in := ok_is_walk_in (P := P) (w := w) (base := base) c O_is_place O_needs_between
  have O_check_walks := ok_check_walks (P := P) (w := w) (base := base) c O_check_house O_is_walk_in
  have O_check_walk_number := ok_check_walk_number (P := P) (w := w) (base := base) c O_is_between
  have O_goes_on := ok_goes_on (P := P) (w := w) (base := base) c O_needs_between O_mask_of
  have O_pressed_masks := ok_pressed_masks (P := P) (w := w) (base := base) c O_mask_of
  have O_opened_in := ok_opened_in (P := P) (w := w) (base := base) c O_masked_doors O_goes_on O_light_of
  have O_opened_by := ok_opened_by (P := P) (w := w) (base := base) c O_check_walks O_check_walk_number O_is_between O_opened_in O_pressed_masks
  have O_debts := ok_debts (P := P) (w := w) (base := base) c O_check_walks O_opened_in O_pressed_masks
  have O_law_hash := ok_law_hash (P := P) (w := w) (base := base) c
  have O_law_random := ok_law_random (P := P) (w := w) (base := base) c O_law_hash
  have O_law_cell := ok_law_cell (P := P) (w := w) (base := base) c
  have O_law_generator := ok_law_generator (P := P) (w := w) (base := base) c O_law_cell
  have O_law_lights := ok_law_lights (P := P) (w := w) (base := base) c O_law_random
  have O_law_level := ok_law_level (P := P) (w := w) (base := base) c O_law_random O_law_lights
  have O_law_house := ok_law_house (P := P) (w := w) (base := base) c O_law_random O_law_lights O_law_level
  have O_law_light := ok_law_light (P := P) (w := w) (base := base) c
  have O_law_goals := ok_law_goals (P := P) (w := w) (base := base) c
  have O_law_walk := ok_law_walk (P := P) (w := w) (base := base) c O_law_random O_law_goals
  have O_law_pressed := ok_law_pressed (P := P) (w := w) (base := base) c
  have O_law_opens := ok_law_opens (P := P) (w := w) (base := base) c
  have O_law_open := ok_law_open (P := P) (w := w) (base := base) c O_law_light O_law_pressed O_law_opens
  have O_law_opened := ok_law_opened (P := P) (w := w) (base := base) c O_law_light O_law_pressed O_law_opens
  have K_opened_by := okK_opened_by (P := P) (w := w) (base := base) c O_check_walks O_check_walk_number O_is_between O_opened_in O_pressed_masks
  have K_debts := okK_debts (P := P) (w := w) (base := base) c O_check_walks O_opened_in O_pressed_masks
  have O_law_same := ok_law_same (P := P) (w := w) (base := base) c
  have O_law_told_right := ok_law_told_right (P := P) (w := w) (base := base) c O_law_opened O_law_open O_law_same O_opened_by K_opened_by O_debts K_debts
  have O_law_right := ok_law_right (P := P) (w := w) (base := base) c O_law_house O_law_random O_law_walk O_law_told_right O_debts
  exact okL_law (P := P) (w := w) (base := base) c O_law_generator O_law_right O_opened_by O_debts O_law_same F
theorem facts {P : Program} {w : World} {K : PySem.W.Frag} {h : Heap} {mg : Str → Option Value} {f : Addr} (X : K.In h) (G : h.Ns mainGlobals mg) (hfa : mg ("law" : Str) = some (.ref f)) (cc : He.SaysD fa fn K) :
    ∃ fd : FuncData, (∀ (s : Shared) (v : Value), BindsTo s fd ⟨[v], []⟩ [("_law_script", v)]) ∧ ∀ base : Heap, K.In base → base.Ns mainGlobals mg → FnOkG P w K mg base CX0 13 f fd ["_law_script"] (sp_law K) := by
  have c : Cf K mg := cf_of X G cc
  obtain ⟨fd, F⟩ := cc.def_ 41 (d := d_law) rfl
  have e := hfa.symm.trans c.g_law
  cases e
  have b := FunD.bindsA (ps := ["_law_script"]) F fun _ _ _ _ _ _ us hl => match us, hl with | [_], _ => rfl
  exact ⟨fd, fun s v => b s [v] rfl, fun base _ _ => all_ok c F⟩
end K30
open PySem PySem.W PySem.Calls PyProof.Rows
theorem PySem.Challenge.cw_timedoors_k30_whole_debts_holds : PySem.Challenge.rw_timedoors_k30_whole_debts.Holds := by
  w_on; o_law
  refine HandSHeadRun.head_any (r := OpenLaw.row PySem.Challenge.rw_timedoors_k30_whole_debts) (q := view (OpenLaw.row PySem.Challenge.rw_timedoors_k30_whole_debts).prog [50]) (H := K30.hk) (ob := K30.ob) (M := 4000) (loose := K30.loose1 ++ K30.loose2) (d := HandSHeadRun.topDef (OpenLaw.row PySem.Challenge.rw_timedoors_k30_whole_debts).prog 50) (kwd := []) K30.ob_eq
    (by kernel_rfl) (fun s => by kernel_rfl) K30.run (by kernel_rfl) (by kernel_rfl) (by kernel_rfl) (by rfl) (by first | assumption | decide +kernel) (by decide +kernel) ⟨rfl, rfl, rfl, rfl, rfl, by decide +kernel⟩ ?hw ?hc
  case hw => w_witness2
  case hc =>
    refine K30.walk_ofEG (l := PySem.Challenge.rw_timedoors_k30_whole_debts) (n := 63) (k := 13) (x := "_law_script") rfl (by decide) (by kernel_rfl) ⟨rfl, by decide, by decide⟩ ?F
    intro w mg fa h Y G hmg0
    obtain ⟨K, KX, c⟩ := Y
    have hmg : mg ("law" : PySem.Str) = some (.ref fa) := by
      have e : (HandSHeadRun.topDef (OpenLaw.row PySem.Challenge.rw_timedoors_k30_whole_debts).prog 50).name = ("law" : PySem.Str) := by kernel_rfl
      rw [← e]
      exact hmg0
    obtain ⟨fd, hb, hF⟩ := K30.facts (P := (PySem.Challenge.rw_timedoors_k30_whole_debts).prog) (w := w) KX G hmg c
    exact ⟨K, fd, K30.sp_law K, KX, hb, fun H a ns hS => ⟨a, ns, rfl, hS, fun _ => rfl⟩, hF⟩

