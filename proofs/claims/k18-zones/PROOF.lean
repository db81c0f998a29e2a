import PyProof.Rows.All
import Wide.All
import OpenK.AllK
import Wide.FinOn
import HandS.ForMost
import HandS.Evl
import HandS.Walk
import HandS.IsInst
import HandS.Slots
import HandS.SlotsOwn
import HandS.TupAny
import HandS.TupMul
import HandS.Zip
import HandS.Conv
import HandS.NoneIn
import KE.GoesEnum
import KE.GoesMore
import KE.KFmtOwn
import PyProof.InstNe
import KE.KAssignIn
import HandS.Wide
import PySem.Challenge.RW_anymargin_k18_whole_zones_within_and_bot
set_option Elab.async false
set_option linter.all false
section
set_option autoImplicit false
set_option maxHeartbeats 4000000
set_option linter.all false
namespace K18

/-! ## bounds: an integer, or none (greater than all) -/
abbrev OI := Option Int
abbrev Row := List OI
abbrev Mat := List Row

def lesserO : OI → OI → OI
  | none, b => b
  | some a, none => some a
  | some a, some b => some (if b < a then b else a)
def addO : OI → OI → OI
  | some a, some b => some (a + b)
  | _, _ => none
def leO : OI → OI → Bool
  | _, none => true
  | none, some _ => false
  | some a, some b => decide (a ≤ b)
def Le : OI → OI → Prop
  | _, none => True
  | none, some _ => False
  | some a, some b => a ≤ b
theorem le_iff (a b : OI) : leO a b = true ↔ Le a b := by
  cases a <;> cases b <;> simp [leO, Le]
theorem Le.refl (a : OI) : Le a a := by cases a <;> simp [Le]
theorem Le.trans {a b c : OI} (h : Le a b) (k : Le b c) : Le a c := by
  cases a <;> cases b <;> cases c <;> simp [Le] at * <;> omega
theorem Le.antisymm {a b : OI} (h : Le a b) (k : Le b a) : a = b := by
  cases a <;> cases b <;> simp [Le] at * <;> omega
theorem Le.total (a b : OI) : Le a b ∨ Le b a := by
  cases a <;> cases b <;> simp [Le] <;> omega
theorem Le.add {a b c d : OI} (h : Le a b) (k : Le c d) : Le (addO a c) (addO b d) := by
  cases a <;> cases b <;> cases c <;> cases d <;> simp [Le, addO] at * <;> omega
theorem lesser_left (a b : OI) : Le (lesserO a b) a := by
  cases a <;> cases b <;> simp [Le, lesserO] <;> split <;> omega
theorem lesser_right (a b : OI) : Le (lesserO a b) b := by
  cases a <;> cases b <;> simp [Le, lesserO] <;> split <;> omega
theorem le_lesser {a b c : OI} (h : Le c a) (k : Le c b) : Le c (lesserO a b) := by
  cases a <;> cases b <;> cases c <;> simp [Le, lesserO] at * <;> first | omega | (split <;> omega)
theorem lesser_or (a b : OI) : lesserO a b = a ∨ lesserO a b = b := by
  cases a <;> cases b <;> simp [lesserO] <;> omega
theorem lesser_mono {a b c d : OI} (h : Le a c) (k : Le b d) : Le (lesserO a b) (lesserO c d) :=
  le_lesser ((lesser_left a b).trans h) ((lesser_right a b).trans k)
theorem lesser_comm (a b : OI) : lesserO a b = lesserO b a :=
  Le.antisymm (le_lesser (lesser_right a b) (lesser_left a b)) (le_lesser (lesser_right b a) (lesser_left b a))
theorem lesser_eq_left {a b : OI} (h : Le a b) : lesserO a b = a := Le.antisymm (lesser_left a b) (le_lesser (Le.refl a) h)
theorem addO_assoc (a b c : OI) : addO (addO a b) c = addO a (addO b c) := by
  cases a <;> cases b <;> cases c <;> simp [addO] <;> omega
theorem addO_comm (a b : OI) : addO a b = addO b a := by
  cases a <;> cases b <;> simp [addO] <;> omega
theorem addO_zero (a : OI) : addO a (some 0) = a := by cases a <;> simp [addO]
theorem zero_addO (a : OI) : addO (some 0) a = a := by cases a <;> simp [addO]

/-! ## matrices -/
def ent (m : Mat) (i j : Nat) : OI := (m.getD i []).getD j none
def tab (n : Nat) (F : Nat → Nat → OI) : Mat := (List.range n).map fun i => (List.range n).map (F i)
structure Sq (n : Nat) (m : Mat) : Prop where
  len : m.length = n
  row : ∀ r ∈ m, r.length = n
theorem ent_tab {n : Nat} {F : Nat → Nat → OI} {i j : Nat} (hi : i < n) (hj : j < n) : ent (tab n F) i j = F i j := by
  unfold ent tab
  simp [List.getD_eq_getElem?_getD, List.getElem?_map, List.getElem?_range, hi, hj]
theorem sq_tab (n : Nat) (F : Nat → Nat → OI) : Sq n (tab n F) := by
  constructor
  · simp [tab]
  · intro r hr
    simp only [tab, List.mem_map] at hr
    obtain ⟨i, _, rfl⟩ := hr
    simp
theorem Sq.get {n : Nat} {m : Mat} (h : Sq n m) {i : Nat} (hi : i < n) : ∃ r, m[i]? = some r ∧ r.length = n ∧ ∀ j, ent m i j = r.getD j none := by
  have hl : i < m.length := by rw [h.len]; exact hi
  refine ⟨m[i], List.getElem?_eq_getElem hl, h.row _ (List.getElem_mem hl), fun j => ?_⟩
  unfold ent
  rw [List.getD_eq_getElem?_getD (l := m), List.getElem?_eq_getElem hl]
  rfl
theorem tab_ext {n : Nat} {F G : Nat → Nat → OI} (h : ∀ i j, i < n → j < n → F i j = G i j) : tab n F = tab n G := by
  unfold tab
  refine List.map_congr_left fun i hi => ?_
  refine List.map_congr_left fun j hj => ?_
  exact h i j (List.mem_range.mp hi) (List.mem_range.mp hj)
theorem Sq.eq_tab {n : Nat} {m : Mat} (h : Sq n m) : m = tab n (ent m) := by
  refine List.ext_getElem? fun i => ?_
  by_cases hi : i < n
  · obtain ⟨r, h1, h2, h3⟩ := h.get hi
    rw [h1]
    simp only [tab, List.getElem?_map, List.getElem?_range hi, Option.map_some]
    congr 1
    refine List.ext_getElem? fun j => ?_
    by_cases hj : j < n
    · have hj2 : j < r.length := by omega
      simp only [List.getElem?_map, List.getElem?_range hj, Option.map_some, h3, List.getD_eq_getElem?_getD]
      rw [List.getElem?_eq_getElem hj2]
      rfl
    · rw [List.getElem?_eq_none (by omega), List.getElem?_eq_none (by simp; omega)]
  · rw [List.getElem?_eq_none (by rw [h.len]; omega), List.getElem?_eq_none (by simp [tab]; omega)]
theorem Sq.ext {n : Nat} {m k : Mat} (h : Sq n m) (h' : Sq n k) (e : ∀ i j, i < n → j < n → ent m i j = ent k i j) : m = k := by
  rw [h.eq_tab, h'.eq_tab]
  exact tab_ext e

def countedAt (m : Mat) (i j : Nat) : OI := if i = 0 ∨ i = j then lesserO (ent m i j) (some 0) else ent m i j
def counted (n : Nat) (m : Mat) : Mat := tab n (countedAt m)
def stepRow (n k i : Nat) (f : Mat) : Row := (List.range n).map fun j => lesserO (ent f i j) (addO (ent f i k) (ent f k j))
def stepI (n k : Nat) (f : Mat) (i : Nat) : Mat := f.set i (stepRow n k i f)
def stepK (n : Nat) (f : Mat) (k : Nat) : Mat := (List.range n).foldl (stepI n k) f
def closedRows (n : Nat) (f : Mat) : Mat := (List.range n).foldl (stepK n) f
def negO : OI → Bool
  | some x => decide (x < 0)
  | none => false
def closedForm (m : Mat) : Option Mat :=
  if (List.range m.length).any (fun i => negO (ent (closedRows m.length (counted m.length m)) i i)) then none else some (closedRows m.length (counted m.length m))

theorem counted_le (m : Mat) (i j : Nat) : Le (countedAt m i j) (ent m i j) := by
  unfold countedAt
  split
  · exact lesser_left _ _
  · exact Le.refl _
theorem counted_zero (m : Mat) (j : Nat) : Le (countedAt m 0 j) (some 0) := by
  unfold countedAt
  rw [if_pos (Or.inl rfl)]
  exact lesser_right _ _
theorem counted_diag (m : Mat) (i : Nat) : Le (countedAt m i i) (some 0) := by
  unfold countedAt
  rw [if_pos (Or.inr rfl)]
  exact lesser_right _ _
theorem le_counted {m : Mat} {i j : Nat} {e : OI} (h : Le e (ent m i j)) (h0 : (i = 0 ∨ i = j) → Le e (some 0)) : Le e (countedAt m i j) := by
  unfold countedAt
  split
  · rename_i hc
    exact le_lesser h (h0 hc)
  · exact h

/-! ## the steps -/
theorem sq_stepI {n k : Nat} {f : Mat} (i : Nat) (h : Sq n f) : Sq n (stepI n k f i) := by
  constructor
  · simp [stepI, h.len]
  · intro r hr
    unfold stepI at hr
    rcases List.mem_or_eq_of_mem_set hr with hr | rfl
    · exact h.row r hr
    · simp [stepRow]
theorem ent_stepI {n k : Nat} {f : Mat} {i a b : Nat} (h : Sq n f) (hi : i < n) (hb : b < n) :
    ent (stepI n k f i) a b = if a = i then lesserO (ent f i b) (addO (ent f i k) (ent f k b)) else ent f a b := by
  have hl : i < f.length := by rw [h.len]; exact hi
  by_cases e : a = i
  · subst e
    rw [if_pos rfl]
    unfold stepI
    have : ent (f.set a (stepRow n k a f)) a b = (stepRow n k a f).getD b none := by
      unfold ent
      rw [List.getD_eq_getElem?_getD (l := f.set a _), List.getElem?_set_self hl]
      rfl
    rw [this]
    unfold stepRow
    simp [List.getD_eq_getElem?_getD, List.getElem?_map, List.getElem?_range, hb]
  · rw [if_neg e]
    unfold stepI ent
    rw [List.getD_eq_getElem?_getD (l := f.set i _), List.getElem?_set_ne (fun q => e q.symm), ← List.getD_eq_getElem?_getD]
theorem sq_foldI {n k : Nat} : ∀ (l : List Nat) {f : Mat}, Sq n f → Sq n (l.foldl (stepI n k) f)
  | [], _, h => h
  | i :: l, _, h => sq_foldI l (sq_stepI i h)
theorem sq_stepK {n : Nat} {f : Mat} (k : Nat) (h : Sq n f) : Sq n (stepK n f k) := sq_foldI _ h
theorem sq_foldK {n : Nat} : ∀ (l : List Nat) {f : Mat}, Sq n f → Sq n (l.foldl (stepK n) f)
  | [], _, h => h
  | k :: l, _, h => sq_foldK l (sq_stepK k h)
theorem sq_closedRows {n : Nat} {f : Mat} (h : Sq n f) : Sq n (closedRows n f) := sq_foldK _ h
theorem sq_counted (n : Nat) (m : Mat) : Sq n (counted n m) := sq_tab _ _

/-- a property of all entries that the steps keep -/
theorem fold_keeps {n : Nat} (P : Nat → Nat → OI → Prop) (hs : ∀ i j k a b c, i < n → j < n → k < n → P i j a → P i k b → P k j c → P i j (lesserO a (addO b c)))
    {f : Mat} (h : Sq n f) (h0 : ∀ i j, i < n → j < n → P i j (ent f i j)) : ∀ i j, i < n → j < n → P i j (ent (closedRows n f) i j) := by
  have one : ∀ (k i : Nat) (f : Mat), k < n → i < n → Sq n f → (∀ a b, a < n → b < n → P a b (ent f a b)) → ∀ a b, a < n → b < n → P a b (ent (stepI n k f i) a b) := by
    intro k i f hk hi h h0 a b ha hb
    rw [ent_stepI h hi hb]
    split
    · rename_i e
      subst e
      exact hs _ _ _ _ _ _ ha hb hk (h0 _ _ ha hb) (h0 _ _ ha hk) (h0 _ _ hk hb)
    · exact h0 _ _ ha hb
  have fI : ∀ (k : Nat) (l : List Nat) (f : Mat), k < n → (∀ i ∈ l, i < n) → Sq n f → (∀ a b, a < n → b < n → P a b (ent f a b)) → ∀ a b, a < n → b < n → P a b (ent (l.foldl (stepI n k) f) a b) := by
    intro k l
    induction l with
    | nil => intro f _ _ _ h0; exact h0
    | cons i l ih =>
      intro f hk hl h h0
      exact ih _ hk (fun i hi => hl i (List.mem_cons_of_mem _ hi)) (sq_stepI i h) (one k i f hk (hl i List.mem_cons_self) h h0)
  have fK : ∀ (l : List Nat) (f : Mat), (∀ i ∈ l, i < n) → Sq n f → (∀ a b, a < n → b < n → P a b (ent f a b)) → ∀ a b, a < n → b < n → P a b (ent (l.foldl (stepK n) f) a b) := by
    intro l
    induction l with
    | nil => intro f _ _ h0; exact h0
    | cons k l ih =>
      intro f hl h h0
      exact ih _ (fun i hi => hl i (List.mem_cons_of_mem _ hi)) (sq_stepK k h) (fI k _ f (hl k List.mem_cons_self) (fun i hi => List.mem_range.mp hi) h h0)
  exact fK _ f (fun i hi => List.mem_range.mp hi) h h0

/-! ## walks -/
def sumP (W : Nat → Nat → OI) : List Nat → OI
  | [] => some 0
  | [_] => some 0
  | a :: b :: r => addO (W a b) (sumP W (b :: r))
theorem sumP_split (W : Nat → Nat → OI) (v : Nat) (b : List Nat) : ∀ a : List Nat, sumP W (a ++ v :: b) = addO (sumP W (a ++ [v])) (sumP W (v :: b))
  | [] => by
    show sumP W (v :: b) = addO (some 0) (sumP W (v :: b))
    rw [zero_addO]
  | [x] => by
    show addO (W x v) (sumP W (v :: b)) = addO (addO (W x v) (some 0)) (sumP W (v :: b))
    rw [addO_zero]
  | x :: y :: a => by
    have ih := sumP_split W v b (y :: a)
    show addO (W x y) (sumP W ((y :: a) ++ v :: b)) = addO (addO (W x y) (sumP W ((y :: a) ++ [v]))) (sumP W (v :: b))
    rw [ih, addO_assoc]
/-- p leads from i to j below n -/
structure Way (n i j : Nat) (p : List Nat) : Prop where
  hd : p.head? = some i
  lt : p.getLast? = some j
  bd : ∀ x ∈ p, x < n
theorem Way.join {n i j k : Nat} {p q : List Nat} (hp : Way n i k p) (hq : Way n k j q) (W : Nat → Nat → OI) : ∃ r, Way n i j r ∧ sumP W r = addO (sumP W p) (sumP W q) := by
  obtain ⟨p', rfl⟩ := List.getLast?_eq_some_iff.mp hp.lt
  obtain ⟨q', rfl⟩ : ∃ q', q = k :: q' := by
    have h := hq.hd
    cases q with
    | nil => simp at h
    | cons x q' =>
      have : x = k := by simpa using h
      exact ⟨q', by rw [this]⟩
  refine ⟨p' ++ k :: q', ⟨?_, ?_, ?_⟩, sumP_split W k q' p'⟩
  · have h := hp.hd
    cases p' with
    | nil => simpa using h
    | cons x r => simpa using h
  · have h := hq.lt
    rw [List.getLast?_append, h]
    rfl
  · intro x hx
    rcases List.mem_append.mp hx with hx | hx
    · exact hp.bd x (List.mem_append_left _ hx)
    · exact hq.bd x hx

/-- closed: nothing less by a place between -/
structure Cl (n : Nat) (E : Nat → Nat → OI) : Prop where
  diag : ∀ i, i < n → E i i = some 0
  tri : ∀ i j k, i < n → j < n → k < n → Le (E i j) (addO (E i k) (E k j))
theorem Cl.le_sum {n : Nat} {E W : Nat → Nat → OI} (c : Cl n E) (h : ∀ i j, i < n → j < n → Le (E i j) (W i j)) : ∀ (p : List Nat) (i j : Nat), Way n i j p → Le (E i j) (sumP W p)
  | [], i, j, w => by have := w.hd; simp at this
  | [x], i, j, w => by
    have e1 : x = i := by simpa using w.hd
    have e2 : x = j := by simpa using w.lt
    subst e1
    subst e2
    rw [c.diag x (w.bd x (by simp))]
    exact Le.refl _
  | x :: y :: r, i, j, w => by
    have e1 : x = i := by simpa using w.hd
    subst e1
    have hx := w.bd x (by simp)
    have hy := w.bd y (by simp)
    have w2 : Way n y j (y :: r) := ⟨rfl, by simpa using w.lt, fun z hz => w.bd z (List.mem_cons_of_mem _ hz)⟩
    have hj : j < n := w.bd j (by
      have := List.mem_of_getLast? w.lt
      exact this)
    exact (c.tri x j y hx hj hy).trans (Le.add (h x y hx hy) (Cl.le_sum c h (y :: r) y j w2))

/-! ## what the rows of the program are: sums of ways, never greater than before, closed if no diagonal entry falls below 0 -/
theorem ent_way {n : Nat} {f W : Nat → Nat → OI} (i j : Nat) (hi : i < n) (hj : j < n) (s : Int) (h : W i j = some s) : ∃ p, Way n i j p ∧ sumP W p = some s :=
  ⟨[i, j], ⟨rfl, rfl, by simp; omega⟩, by show addO (W i j) (some 0) = some s; rw [h]; simp [addO]⟩
theorem closed_way {n : Nat} {W : Nat → Nat → OI} {i j : Nat} {s : Int} (hi : i < n) (hj : j < n) (h : ent (closedRows n (tab n W)) i j = some s) : ∃ p, Way n i j p ∧ sumP W p = some s := by
  refine fold_keeps (fun i j e => ∀ s, e = some s → ∃ p, Way n i j p ∧ sumP W p = some s) ?_ (sq_tab n W) ?_ i j hi hj s h
  · intro i j k a b c hi hj hk ha hb hc s hs
    rcases lesser_or a (addO b c) with e | e
    · exact ha s (e.symm.trans hs)
    · rw [e] at hs
      cases b with
      | none => cases hs
      | some y =>
        cases c with
        | none => cases hs
        | some z =>
          obtain ⟨p, wp, sp⟩ := hb y rfl
          obtain ⟨q, wq, sq⟩ := hc z rfl
          obtain ⟨r, wr, sr⟩ := wp.join wq W
          exact ⟨r, wr, by rw [sr, sp, sq]; exact hs⟩
  · intro i j hi hj s hs
    rw [ent_tab hi hj] at hs
    exact ent_way (f := W) i j hi hj s hs
/-- LEMMA L: what is closed and below the bounds is below their closed form -/
theorem Cl.le_closed {n : Nat} {E W : Nat → Nat → OI} (c : Cl n E) (h : ∀ i j, i < n → j < n → Le (E i j) (W i j)) {i j : Nat} (hi : i < n) (hj : j < n) : Le (E i j) (ent (closedRows n (tab n W)) i j) := by
  cases e : ent (closedRows n (tab n W)) i j with
  | none => cases E i j <;> trivial
  | some s =>
    obtain ⟨p, wp, sp⟩ := closed_way hi hj e
    rw [← sp]
    exact c.le_sum h p i j wp
theorem closed_le {n : Nat} {W : Nat → Nat → OI} {i j : Nat} (hi : i < n) (hj : j < n) : Le (ent (closedRows n (tab n W)) i j) (W i j) :=
  fold_keeps (fun i j e => Le e (W i j)) (fun i j k a b c _ _ _ ha _ _ => (lesser_left _ _).trans ha) (sq_tab n W) (fun i j hi hj => by rw [ent_tab hi hj]; exact Le.refl _) i j hi hj

/-- the rows behind k stages -/
def stage (n : Nat) (f : Mat) (k : Nat) : Mat := (List.range k).foldl (stepK n) f
theorem stage_succ (n : Nat) (f : Mat) (k : Nat) : stage n f (k + 1) = stepK n (stage n f k) k := by
  unfold stage
  rw [List.range_succ, List.foldl_append]
  rfl
theorem sq_stage {n : Nat} {f : Mat} (h : Sq n f) (k : Nat) : Sq n (stage n f k) := sq_foldK _ h
theorem stepK_le {n k : Nat} {f : Mat} (h : Sq n f) : ∀ a b, a < n → b < n → Le (ent (stepK n f k) a b) (ent f a b) := by
  have key : ∀ (l : List Nat) (g : Mat), (∀ i ∈ l, i < n) → Sq n g → ∀ a b, a < n → b < n → Le (ent (l.foldl (stepI n k) g) a b) (ent g a b) := by
    intro l
    induction l with
    | nil => intro g _ _ a b _ _; exact Le.refl _
    | cons i l ih =>
      intro g hl hg a b ha hb
      refine (ih _ (fun x hx => hl x (List.mem_cons_of_mem _ hx)) (sq_stepI i hg) a b ha hb).trans ?_
      rw [ent_stepI hg (hl i List.mem_cons_self) hb]
      split
      · rename_i e
        subst e
        exact lesser_left _ _
      · exact Le.refl _
  exact key _ f (fun i hi => List.mem_range.mp hi) h
theorem stage_le {n : Nat} {f : Mat} (h : Sq n f) {j k : Nat} (hjk : j ≤ k) : ∀ a b, a < n → b < n → Le (ent (stage n f k) a b) (ent (stage n f j) a b) := by
  induction k with
  | zero =>
    intro a b _ _
    have : j = 0 := by omega
    subst this
    exact Le.refl _
  | succ k ih =>
    intro a b ha hb
    by_cases e : j = k + 1
    · subst e
      exact Le.refl _
    · rw [stage_succ]
      exact (stepK_le (sq_stage h k) a b ha hb).trans (ih (by omega) a b ha hb)
/-- a stage is the simultaneous one, if its own diagonal entry is 0 -/
theorem stepK_ent {n k : Nat} {f : Mat} (h : Sq n f) (hk : k < n) (h0 : ent f k k = some 0) : ∀ a b, a < n → b < n → ent (stepK n f k) a b = lesserO (ent f a b) (addO (ent f a k) (ent f k b)) := by
  have same : ∀ b, lesserO (ent f k b) (addO (ent f k k) (ent f k b)) = ent f k b := fun b => by
    rw [h0, zero_addO]
    exact lesser_eq_left (Le.refl _)
  have key : ∀ m, m ≤ n → Sq n ((List.range m).foldl (stepI n k) f) ∧ ∀ a b, a < n → b < n →
      ent ((List.range m).foldl (stepI n k) f) a b = if a < m then lesserO (ent f a b) (addO (ent f a k) (ent f k b)) else ent f a b := by
    intro m
    induction m with
    | zero => intro _; exact ⟨h, fun a b _ _ => by simp⟩
    | succ m ih =>
      intro hm
      obtain ⟨s, e⟩ := ih (by omega)
      rw [List.range_succ, List.foldl_append]
      refine ⟨sq_stepI m s, fun a b ha hb => ?_⟩
      show ent (stepI n k ((List.range m).foldl (stepI n k) f) m) a b = _
      rw [ent_stepI s (by omega) hb]
      by_cases ea : a = m
      · subst ea
        rw [if_pos rfl, if_pos (Nat.lt_succ_self _), e a b ha hb, e a k ha hk, e k b hk hb, if_neg (Nat.lt_irrefl _), if_neg (Nat.lt_irrefl _)]
        congr 2
        split
        · exact same b
        · rfl
      · rw [if_neg ea, e a b ha hb]
        by_cases h1 : a < m
        · rw [if_pos h1, if_pos (by omega)]
        · rw [if_neg h1, if_neg (by omega)]
  intro a b ha hb
  obtain ⟨_, e⟩ := key n (Nat.le_refl n)
  have e := e a b ha hb
  rw [if_pos ha] at e
  exact e
theorem closed_cl {n : Nat} {f : Mat} (h : Sq n f) (hd : ∀ i, i < n → Le (ent f i i) (some 0)) (hn : ∀ i, i < n → Le (some 0) (ent (closedRows n f) i i)) : Cl n (ent (closedRows n f)) := by
  have zero : ∀ k, k ≤ n → ∀ i, i < n → ent (stage n f k) i i = some 0 := fun k hk i hi =>
    Le.antisymm ((stage_le h (Nat.zero_le k) i i hi hi).trans (hd i hi)) ((hn i hi).trans (stage_le h hk i i hi hi))
  have key : ∀ k, k ≤ n → ∀ m, m < k → ∀ i j, i < n → j < n → Le (ent (stage n f k) i j) (addO (ent (stage n f k) i m) (ent (stage n f k) m j)) := by
    intro k
    induction k with
    | zero => intro _ m hm; omega
    | succ k ih =>
      intro hk m hm i j hi hj
      have hkn : k < n := by omega
      have hmn : m < n := by omega
      have z := zero k (by omega) k hkn
      have E := stepK_ent (sq_stage h k) hkn z
      rw [stage_succ, E i j hi hj, E i m hi hmn, E m j hmn hj]
      generalize hd : ent (stage n f k) = d at *
      have T : ∀ a b, m < k → a < n → b < n → Le (d a b) (addO (d a m) (d m b)) := fun a b hmk ha hb => by
        have q := ih (by omega) m hmk a b ha hb
        first | exact q | (rw [hd] at q; exact q)
      by_cases e : m = k
      · subst e
        rw [z, addO_zero, zero_addO]
        have e1 : lesserO (d i m) (d i m) = d i m := lesser_eq_left (Le.refl _)
        have e2 : lesserO (d m j) (d m j) = d m j := lesser_eq_left (Le.refl _)
        rw [e1, e2]
        exact lesser_right _ _
      · have hmk : m < k := by omega
        have dt : Le (lesserO (d i j) (addO (d i k) (d k j))) (addO (d i k) (d k j)) := lesser_right _ _
        rcases lesser_or (d i m) (addO (d i k) (d k m)) with e1 | e1 <;> rcases lesser_or (d m j) (addO (d m k) (d k j)) with e2 | e2 <;> rw [e1, e2]
        · exact (lesser_left _ _).trans (T i j hmk hi hj)
        · rw [← addO_assoc]
          exact dt.trans (Le.add (T i k hmk hi hkn) (Le.refl _))
        · rw [addO_assoc]
          exact dt.trans (Le.add (Le.refl _) (T k j hmk hkn hj))
        · rw [addO_assoc, ← addO_assoc (d k m)]
          have t := T k k hmk hkn hkn
          rw [z] at t
          refine dt.trans (Le.add (Le.refl _) ?_)
          have q := Le.add t (Le.refl (d k j))
          rw [zero_addO] at q
          exact q
  refine ⟨fun i hi => zero n (Nat.le_refl n) i hi, fun i j k hi hj hk => key n (Nat.le_refl n) k hk i j hi hj⟩

/-! ## ways without a place twice -/
def NoNeg (n : Nat) (W : Nat → Nat → OI) : Prop := ∀ row : List Nat, row ≠ [] → row.Nodup → (∀ x ∈ row, x < n) → Le (some 0) (sumP W (row ++ row.take 1))
theorem erase {n : Nat} {W : Nat → Nat → OI} (h : NoNeg n W) : ∀ (p : List Nat) (i j : Nat), Way n i j p → ∃ q, Way n i j q ∧ q.Nodup ∧ Le (sumP W q) (sumP W p)
  | [], i, j, w => by have := w.hd; simp at this
  | [x], i, j, w => ⟨[x], w, by simp, Le.refl _⟩
  | v :: y :: r, i, j, w => by
    have ev : v = i := by simpa using w.hd
    subst ev
    have w2 : Way n y j (y :: r) := ⟨rfl, by simpa using w.lt, fun z hz => w.bd z (List.mem_cons_of_mem _ hz)⟩
    obtain ⟨q, wq, nq, lq⟩ := erase h (y :: r) y j w2
    obtain ⟨q', rfl⟩ : ∃ q', q = y :: q' := by
      have h := wq.hd
      cases q with
      | nil => simp at h
      | cons x q' =>
        have : x = y := by simpa using h
        exact ⟨q', by rw [this]⟩
    have le1 : Le (sumP W (v :: y :: q')) (sumP W (v :: y :: r)) := Le.add (Le.refl _) lq
    have bv := w.bd v (by simp)
    by_cases hv : v ∈ (y :: q')
    · obtain ⟨q1, q2, eq, nv⟩ := List.eq_append_cons_of_mem hv
      refine ⟨v :: q2, ⟨rfl, ?_, ?_⟩, ?_, ?_⟩
      · have e := wq.lt
        rw [eq, List.getLast?_append] at e
        have : (v :: q2).getLast? ≠ none := by simp
        cases hq : (v :: q2).getLast? with
        | none => exact absurd hq this
        | some z =>
          rw [hq] at e
          simpa using e
      · intro z hz
        exact wq.bd z (by rw [eq]; exact List.mem_append_right _ hz)
      · rw [eq] at nq
        exact (List.nodup_append.mp nq).2.1
      · refine Le.trans ?_ le1
        rw [show v :: y :: q' = (v :: q1) ++ v :: q2 by rw [eq]; rfl, sumP_split]
        have n1 : (v :: q1).Nodup := by
          rw [eq] at nq
          exact List.nodup_cons.mpr ⟨nv, (List.nodup_append.mp nq).1⟩
        have r := h (v :: q1) (by simp) n1 (fun z hz => by
          rcases List.mem_cons.mp hz with rfl | hz
          · exact bv
          · exact wq.bd z (by rw [eq]; exact List.mem_append_left _ hz))
        have q := Le.add r (Le.refl (sumP W (v :: q2)))
        rw [zero_addO] at q
        exact q
    · refine ⟨v :: y :: q', ⟨rfl, ?_, ?_⟩, List.nodup_cons.mpr ⟨hv, nq⟩, le1⟩
      · have := wq.lt
        simpa using this
      · intro z hz
        rcases List.mem_cons.mp hz with rfl | hz
        · exact bv
        · exact wq.bd z hz

/-! ## the law's rows: all ways without a place twice -/
def rowsStep (n goal : Nat) (s : List (List Nat) × List (List Nat)) : List (List Nat) × List (List Nat) :=
  (s.1 ++ s.2.filter (fun r => r.getLast? == some goal), (s.2.filter (fun r => !(r.getLast? == some goal))).flatMap fun r => ((List.range n).filter fun a => !r.contains a).map fun a => r ++ [a])
def rowsFrom (n goal : Nat) : Nat → List (List Nat) × List (List Nat) → List (List Nat) × List (List Nat)
  | 0, s => s
  | t + 1, s => rowsStep n goal (rowsFrom n goal t s)
def zwRows (n b g : Nat) : List (List Nat) := (rowsFrom n g n ([], [[b]])).1
theorem nodup_len : ∀ (n : Nat) (l : List Nat), l.Nodup → (∀ x ∈ l, x < n) → l.length ≤ n
  | 0, l, _, h => by
    cases l with
    | nil => simp
    | cons x r => exact absurd (h x List.mem_cons_self) (Nat.not_lt_zero _)
  | n + 1, l, hn, h => by
    have e : l.length ≤ (l.filter (fun x => x != n)).length + 1 := by
      have key : ∀ l : List Nat, l.Nodup → l.length ≤ (l.filter (fun x => x != n)).length + 1 := by
        intro l
        induction l with
        | nil => intro _; simp
        | cons x r ih =>
          intro hn
          have hn' := List.nodup_cons.mp hn
          by_cases hx : x = n
          · subst hx
            have : r.filter (fun y => y != x) = r := List.filter_eq_self.mpr fun y hy => by
              have : y ≠ x := fun q => hn'.1 (q ▸ hy)
              simpa using this
            rw [List.filter_cons_of_neg (by simp), this]
            simp
          · rw [List.filter_cons_of_pos (by simpa using hx)]
            have := ih hn'.2
            simp only [List.length_cons]
            omega
      exact key l hn
    have i := nodup_len n (l.filter (fun x => x != n)) (hn.sublist List.filter_sublist) (fun x hx => by
      have h1 := h x (List.mem_filter.mp hx).1
      have h2 : x ≠ n := by simpa using (List.mem_filter.mp hx).2
      omega)
    omega
theorem rows_here {n b g : Nat} (hb : b < n) : ∀ (t : Nat), (∀ r ∈ (rowsFrom n g t ([], [[b]])).2, r.Nodup ∧ r.head? = some b ∧ (∀ x ∈ r, x < n) ∧ r.length = t + 1) ∧
    (∀ r ∈ (rowsFrom n g t ([], [[b]])).1, Way n b g r ∧ r.Nodup)
  | 0 => by
    refine ⟨fun r hr => ?_, fun r hr => by simp [rowsFrom] at hr⟩
    have : r = [b] := by simpa [rowsFrom] using hr
    subst this
    simp [hb]
  | t + 1 => by
    obtain ⟨h1, h2⟩ := rows_here (g := g) hb t
    refine ⟨fun r hr => ?_, fun r hr => ?_⟩
    · simp only [rowsFrom, rowsStep, List.mem_flatMap, List.mem_map, List.mem_filter, List.mem_range] at hr
      obtain ⟨r', ⟨hr', _⟩, a, ⟨ha, hna⟩, rfl⟩ := hr
      obtain ⟨n1, n2, n3, n4⟩ := h1 r' hr'
      refine ⟨?_, ?_, ?_, by simp [n4]⟩
      · refine List.nodup_append.mpr ⟨n1, by simp, ?_⟩
        intro x hx y hy e
        have : y = a := by simpa using hy
        subst this
        subst e
        simp at hna
        exact hna hx
      · rw [List.head?_append, n2]
        rfl
      · intro x hx
        rcases List.mem_append.mp hx with hx | hx
        · exact n3 x hx
        · have : x = a := by simpa using hx
          omega
    · simp only [rowsFrom, rowsStep, List.mem_append, List.mem_filter] at hr
      rcases hr with hr | ⟨hr, hl⟩
      · exact h2 r hr
      · obtain ⟨n1, n2, n3, _⟩ := h1 r hr
        exact ⟨⟨n2, by simpa using hl, n3⟩, n1⟩
theorem rows_found {n b g : Nat} {s : List (List Nat) × List (List Nat)} {r : List Nat} : ∀ (t u : Nat), r ∈ (rowsFrom n g t s).1 → r ∈ (rowsFrom n g (t + u) s).1
  | _, 0, h => h
  | t, u + 1, h => by
    show r ∈ (rowsStep n g (rowsFrom n g (t + u) s)).1
    exact List.mem_append_left _ (rows_found (b := b) t u h)
theorem mem_rows {n b g : Nat} (hb : b < n) (r : List Nat) : r ∈ zwRows n b g ↔ Way n b g r ∧ r.Nodup := by
  constructor
  · exact (rows_here hb n).2 r
  · rintro ⟨w, nd⟩
    have hlen : r.length ≤ n := nodup_len n r nd w.bd
    have pos : 0 < r.length := by
      cases r with
      | nil => have := w.hd; simp at this
      | cons _ _ => simp
    have last : ∀ k (hk : k < r.length), r[k] = g → k = r.length - 1 := fun k hk e => by
      have e2 : r[r.length - 1]? = some g := by rw [← List.getLast?_eq_getElem?]; exact w.lt
      have e3 : r[r.length - 1]'(by omega) = g := by
        rw [List.getElem?_eq_getElem (by omega)] at e2
        exact Option.some.inj e2
      exact (List.getElem_inj nd).mp (e.trans e3.symm)
    have pre : ∀ t, t < r.length → r.take (t + 1) ∈ (rowsFrom n g t ([], [[b]])).2 := by
      intro t
      induction t with
      | zero =>
        intro _
        cases r with
        | nil => simp at pos
        | cons x r' =>
          have : x = b := by simpa using w.hd
          subst this
          simp [rowsFrom]
      | succ t ih =>
        intro ht
        have i := ih (by omega)
        simp only [rowsFrom, rowsStep, List.mem_flatMap, List.mem_map, List.mem_filter, List.mem_range]
        refine ⟨r.take (t + 1), ⟨i, ?_⟩, r[t + 1], ⟨w.bd _ (List.getElem_mem ht), ?_⟩, ?_⟩
        · have e : (r.take (t + 1)).getLast? = some (r[t]'(by omega)) := by
            rw [List.getLast?_eq_getElem?, List.length_take, Nat.min_eq_left (by omega), List.getElem?_take_of_lt (by omega)]
            exact List.getElem?_eq_getElem (by omega)
          rw [e]
          have : r[t]'(by omega) ≠ g := fun q => by
            have := last t (by omega) q
            omega
          simpa using this
        · have : r[t + 1] ∉ r.take (t + 1) := fun hm => by
            obtain ⟨k, hk, e⟩ := List.mem_take_iff_getElem.mp hm
            have := (List.getElem_inj nd).mp e
            omega
          simpa using this
        · rw [List.take_add_one (i := t + 1), List.getElem?_eq_getElem ht]
          rfl
    have fin := pre (r.length - 1) (by omega)
    rw [show r.length - 1 + 1 = r.length by omega, List.take_length] at fin
    have here : r ∈ (rowsFrom n g (r.length - 1 + 1) ([], [[b]])).1 := by
      show r ∈ (rowsStep n g (rowsFrom n g (r.length - 1) ([], [[b]]))).1
      refine List.mem_append_right _ (List.mem_filter.mpr ⟨fin, ?_⟩)
      rw [w.lt]
      simp
    rw [show r.length - 1 + 1 = r.length by omega] at here
    have := rows_found (b := b) (r.length) (n - r.length) here
    rw [show r.length + (n - r.length) = n by omega] at this
    exact this

/-! ## the law's closed form -/
def minL : List Int → Int
  | [] => 0
  | x :: r => r.foldl (fun a b => if b < a then b else a) x
theorem foldl_min : ∀ (r : List Int) (x : Int), (r.foldl (fun a b => if b < a then b else a) x = x ∨ r.foldl (fun a b => if b < a then b else a) x ∈ r) ∧
    r.foldl (fun a b => if b < a then b else a) x ≤ x ∧ ∀ y ∈ r, r.foldl (fun a b => if b < a then b else a) x ≤ y
  | [], x => by simp
  | z :: r, x => by
    obtain ⟨h1, h2, h3⟩ := foldl_min r (if z < x then z else x)
    simp only [List.foldl_cons, List.mem_cons]
    have e : (if z < x then z else x) ≤ x ∧ (if z < x then z else x) ≤ z ∧ ((if z < x then z else x) = x ∨ (if z < x then z else x) = z) := by split <;> omega
    refine ⟨?_, by omega, ?_⟩
    · rcases h1 with h1 | h1
      · rw [h1]
        rcases e.2.2 with e | e
        · exact Or.inl e
        · exact Or.inr (Or.inl e)
      · exact Or.inr (Or.inr h1)
    · intro y hy
      rcases hy with rfl | hy
      · omega
      · exact h3 y hy
theorem minL_mem {l : List Int} (h : l ≠ []) : minL l ∈ l ∧ ∀ y ∈ l, minL l ≤ y := by
  cases l with
  | nil => exact absurd rfl h
  | cons x r =>
    obtain ⟨h1, h2, h3⟩ := foldl_min r x
    refine ⟨?_, ?_⟩
    · show r.foldl _ x ∈ x :: r
      rcases h1 with h1 | h1
      · rw [h1]; exact List.mem_cons_self
      · exact List.mem_cons_of_mem _ h1
    · intro y hy
      show r.foldl _ x ≤ y
      rcases List.mem_cons.mp hy with rfl | hy
      · exact h2
      · exact h3 y hy
theorem minL_eq {l : List Int} {m : Int} (h1 : m ∈ l) (h2 : ∀ y ∈ l, m ≤ y) : minL l = m := by
  have hne : l ≠ [] := fun e => by rw [e] at h1; simp at h1
  obtain ⟨a, b⟩ := minL_mem hne
  have := b m h1
  have := h2 _ a
  omega
def minO (l : List OI) : OI := if l.filterMap id = [] then none else some (minL (l.filterMap id))
theorem minO_eq {l : List OI} {e : OI} (h1 : ∀ x ∈ l, Le e x) (h2 : e ≠ none → e ∈ l) : minO l = e := by
  unfold minO
  cases e with
  | none =>
    have : l.filterMap id = [] := by
      rw [List.filterMap_eq_nil_iff]
      intro x hx
      have := h1 x hx
      cases x with
      | none => rfl
      | some y => exact this.elim
    rw [if_pos this]
  | some m =>
    have hm : m ∈ l.filterMap id := List.mem_filterMap.mpr ⟨some m, h2 (by simp), rfl⟩
    have hne : l.filterMap id ≠ [] := fun q => by rw [q] at hm; simp at hm
    rw [if_neg hne, minL_eq hm]
    intro y hy
    obtain ⟨x, hx, e⟩ := List.mem_filterMap.mp hy
    cases e
    exact h1 _ hx
def zwSum (m : Mat) (row : List Nat) : OI := sumP (countedAt m) row
def zwEmpty (m : Mat) : Bool := (List.range m.length).any fun b => (List.range m.length).any fun g => (zwRows m.length b g).any fun r => negO (zwSum m (r ++ r.take 1))
def zwClosed (m : Mat) : Option Mat := if zwEmpty m then none else some (tab m.length fun i j => minO ((zwRows m.length i j).map (zwSum m)))
theorem negO_iff (e : OI) : negO e = false ↔ Le (some 0) e := by
  cases e <;> simp [negO, Le]
theorem zwEmpty_iff {n : Nat} {m : Mat} (hl : m.length = n) : zwEmpty m = false ↔ NoNeg n (countedAt m) := by
  subst hl
  constructor
  · intro h row hne nd bd
    rw [← negO_iff]
    cases hq : negO (sumP (countedAt m) (row ++ row.take 1)) with
    | false => rfl
    | true =>
      obtain ⟨b, r', rfl⟩ : ∃ b r', row = b :: r' := by
        cases row with
        | nil => exact absurd rfl hne
        | cons b r' => exact ⟨b, r', rfl⟩
      have hg : ∃ g, (b :: r').getLast? = some g := by
        cases hq : (b :: r').getLast? with
        | none => simp at hq
        | some g => exact ⟨g, rfl⟩
      obtain ⟨g, hg⟩ := hg
      have hb := bd b List.mem_cons_self
      have hgm := bd g (List.mem_of_getLast? hg)
      have : zwEmpty m = true := by
        unfold zwEmpty
        rw [List.any_eq_true]
        refine ⟨b, List.mem_range.mpr hb, ?_⟩
        rw [List.any_eq_true]
        refine ⟨g, List.mem_range.mpr hgm, ?_⟩
        rw [List.any_eq_true]
        exact ⟨b :: r', (mem_rows hb _).mpr ⟨⟨rfl, hg, bd⟩, nd⟩, hq⟩
      rw [h] at this
      cases this
  · intro h
    cases hq : zwEmpty m with
    | false => rfl
    | true =>
      unfold zwEmpty at hq
      rw [List.any_eq_true] at hq
      obtain ⟨b, hb, hq⟩ := hq
      rw [List.any_eq_true] at hq
      obtain ⟨g, hg, hq⟩ := hq
      rw [List.any_eq_true] at hq
      obtain ⟨r, hr, hq⟩ := hq
      obtain ⟨w, nd⟩ := (mem_rows (List.mem_range.mp hb) r).mp hr
      have q := h r (fun e => by have := w.hd; rw [e] at this; simp at this) nd w.bd
      rw [← negO_iff] at q
      unfold zwSum at hq
      rw [q] at hq
      cases hq
/-- no closed form of the program's: a negative round; one: none -/
theorem closed_diag {n : Nat} {W : Nat → Nat → OI} (hd : ∀ i, i < n → Le (W i i) (some 0)) : NoNeg n W ↔ ∀ i, i < n → Le (some 0) (ent (closedRows n (tab n W)) i i) := by
  constructor
  · intro h i hi
    cases e : ent (closedRows n (tab n W)) i i with
    | none => trivial
    | some s =>
      obtain ⟨p, wp, sp⟩ := closed_way hi hi e
      obtain ⟨q, wq, nq, lq⟩ := erase h p i i wp
      have : q = [i] := by
        cases q with
        | nil => have := wq.hd; simp at this
        | cons x r =>
          have ex : x = i := by simpa using wq.hd
          subst ex
          cases r with
          | nil => rfl
          | cons y r =>
            have hl := wq.lt
            have : x ∈ y :: r := by
              have e : (x :: y :: r).getLast? = (y :: r).getLast? := by simp
              rw [e] at hl
              exact List.mem_of_getLast? hl
            exact absurd this (List.nodup_cons.mp nq).1
      rw [this, sp] at lq
      exact lq
  · intro h row hne nd bd
    have c := closed_cl (sq_tab n W) (fun i hi => by rw [ent_tab hi hi]; exact hd i hi) h
    obtain ⟨b, r', rfl⟩ : ∃ b r', row = b :: r' := by
      cases row with
      | nil => exact absurd rfl hne
      | cons b r' => exact ⟨b, r', rfl⟩
    have hb := bd b List.mem_cons_self
    have w : Way n b b ((b :: r') ++ [b]) := ⟨rfl, List.getLast?_concat, fun x hx => by
      rcases List.mem_append.mp hx with hx | hx
      · exact bd x hx
      · have : x = b := by simpa using hx
        omega⟩
    have q := c.le_sum (W := W) (fun i j hi hj => closed_le hi hj) _ b b w
    rw [c.diag b hb] at q
    exact q
/-- THE CLOSED FORM of the program is the law's -/
theorem closedForm_eq {n : Nat} {m : Mat} (h : Sq n m) : closedForm m = zwClosed m := by
  have hl := h.len
  subst hl
  have hd : ∀ i, i < m.length → Le (countedAt m i i) (some 0) := fun i _ => counted_diag m i
  have D := closed_diag (n := m.length) hd
  unfold closedForm zwClosed
  cases he : zwEmpty m with
  | true =>
    rw [if_pos]
    · rfl
    · cases ha : (List.range m.length).any fun i => negO (ent (closedRows m.length (counted m.length m)) i i) with
      | true => rfl
      | false =>
        have : NoNeg m.length (countedAt m) := D.mpr fun i hi => by
          rw [List.any_eq_false] at ha
          have q := ha i (List.mem_range.mpr hi)
          rw [← negO_iff]
          exact Bool.eq_false_iff.mpr q
        rw [← zwEmpty_iff rfl, he] at this
        cases this
  | false =>
    have nn := (zwEmpty_iff rfl).mp he
    have dg := D.mp nn
    rw [if_neg, if_neg Bool.false_ne_true]
    · congr 1
      have c := closed_cl (sq_tab m.length (countedAt m)) (fun i hi => by rw [ent_tab hi hi]; exact hd i hi) dg
      refine Sq.ext (n := m.length) (sq_closedRows (sq_counted _ _)) (sq_tab _ _) fun i j hi hj => ?_
      rw [ent_tab hi hj]
      refine (minO_eq ?_ ?_).symm
      · intro x hx
        obtain ⟨r, hr, rfl⟩ := List.mem_map.mp hx
        obtain ⟨w, _⟩ := (mem_rows hi r).mp hr
        exact c.le_sum (fun a b ha hb => closed_le ha hb) r i j w
      · intro hne
        cases e : ent (closedRows m.length (counted m.length m)) i j with
        | none => exact absurd e hne
        | some s =>
          obtain ⟨p, wp, sp⟩ := closed_way hi hj e
          obtain ⟨q, wq, nq, lq⟩ := erase nn p i j wp
          refine List.mem_map.mpr ⟨q, (mem_rows hi q).mpr ⟨wq, nq⟩, ?_⟩
          have l2 := c.le_sum (W := countedAt m) (fun a b ha hb => closed_le ha hb) q i j wq
          have e' : ent (closedRows m.length (tab m.length (countedAt m))) i j = some s := e
          rw [e'] at l2
          rw [sp] at lq
          exact Le.antisymm lq l2
    · rw [Bool.not_eq_true, List.any_eq_false]
      intro i hi
      have q := dg i (List.mem_range.mp hi)
      rw [← negO_iff] at q
      rw [show ent (closedRows m.length (counted m.length m)) i i = ent (closedRows m.length (tab m.length (countedAt m))) i i from rfl, q]
      exact Bool.false_ne_true

/-! ## what a closed form is -/
theorem closedForm_some {n : Nat} {m c : Mat} (h : Sq n m) (e : closedForm m = some c) : Sq n c ∧ Cl n (ent c) ∧ (∀ i j, i < n → j < n → Le (ent c i j) (countedAt m i j)) ∧
    ∀ E : Nat → Nat → OI, Cl n E → (∀ i j, i < n → j < n → Le (E i j) (countedAt m i j)) → ∀ i j, i < n → j < n → Le (E i j) (ent c i j) := by
  have hl := h.len
  subst hl
  unfold closedForm at e
  split at e
  · cases e
  · rename_i hn
    have ec : closedRows m.length (tab m.length (countedAt m)) = c := Option.some.inj e
    have dg : ∀ i, i < m.length → Le (some 0) (ent (closedRows m.length (tab m.length (countedAt m))) i i) := fun i hi => by
      rw [Bool.not_eq_true, List.any_eq_false] at hn
      have q := hn i (List.mem_range.mpr hi)
      rw [← negO_iff]
      exact Bool.eq_false_iff.mpr q
    have cl := closed_cl (sq_tab m.length (countedAt m)) (fun i hi => by rw [ent_tab hi hi]; exact counted_diag m i) dg
    have sq : Sq m.length c := by rw [← ec]; exact sq_closedRows (sq_tab _ _)
    rw [ec] at cl
    exact ⟨sq, cl, fun i j hi hj => by rw [← ec]; exact closed_le hi hj, fun E cE hE i j hi hj => by rw [← ec]; exact cE.le_closed hE hi hj⟩
theorem closedForm_there {n : Nat} {m : Mat} (h : Sq n m) {E : Nat → Nat → OI} (cE : Cl n E) (hE : ∀ i j, i < n → j < n → Le (E i j) (countedAt m i j)) : ∃ c, closedForm m = some c := by
  have hl := h.len
  subst hl
  unfold closedForm
  rw [if_neg]
  · exact ⟨_, rfl⟩
  · rw [Bool.not_eq_true, List.any_eq_false]
    intro i hi
    have hi := List.mem_range.mp hi
    have q := cE.le_closed hE hi hi
    rw [cE.diag i hi, ← negO_iff] at q
    exact Bool.eq_false_iff.mp q

/-! ## points -/
/-- readings (whole numbers of the unit; P 0 = 0) keep all bounds -/
def Keeps (n : Nat) (m : Mat) (P : Nat → Int) : Prop := ∀ i j, i < n → j < n → Le (some (P i - P j)) (ent m i j)
structure Pt (n : Nat) (P : Nat → Int) : Prop where
  zero : P 0 = 0
  pos : ∀ i, i < n → 0 ≤ P i
theorem cl_pt (n : Nat) (P : Nat → Int) : Cl n (fun i j => some (P i - P j)) := by
  constructor
  · intro i _
    simp
  · intro i j k _ _ _
    show P i - P j ≤ (P i - P k) + (P k - P j)
    omega
theorem Keeps.counted {n : Nat} {m : Mat} {P : Nat → Int} (h : Keeps n m P) (p : Pt n P) : ∀ i j, i < n → j < n → Le (some (P i - P j)) (countedAt m i j) := fun i j hi hj =>
  le_counted (h i j hi hj) fun hc => by
    show P i - P j ≤ 0
    rcases hc with rfl | rfl
    · have := p.pos j hj
      have := p.zero
      omega
    · omega
theorem Keeps.there {n : Nat} {m : Mat} {P : Nat → Int} (hm : Sq n m) (h : Keeps n m P) (p : Pt n P) : ∃ c, closedForm m = some c := closedForm_there hm (cl_pt n P) (h.counted p)
theorem Keeps.closed {n : Nat} {m c : Mat} {P : Nat → Int} (hm : Sq n m) (e : closedForm m = some c) (h : Keeps n m P) (p : Pt n P) : Keeps n c P :=
  (closedForm_some hm e).2.2.2 _ (cl_pt n P) (h.counted p)
theorem Keeps.told {n : Nat} {m c : Mat} {P : Nat → Int} (hm : Sq n m) (e : closedForm m = some c) (h : Keeps n c P) : Keeps n m P := fun i j hi hj =>
  ((h i j hi hj).trans ((closedForm_some hm e).2.2.1 i j hi hj)).trans (counted_le m i j)
/-- the least point of a closed form -/
def leastP (c : Mat) : Nat → Int := fun k => -((ent c 0 k).getD 0)
theorem row0 {n : Nat} {m c : Mat} (hm : Sq n m) (e : closedForm m = some c) {k : Nat} (hk : k < n) : ∃ x, ent c 0 k = some x ∧ x ≤ 0 := by
  have q := ((closedForm_some hm e).2.2.1 0 k (by omega) hk).trans (counted_zero m k)
  cases h : ent c 0 k with
  | none => rw [h] at q; exact q.elim
  | some x => rw [h] at q; exact ⟨x, rfl, q⟩
theorem least_pt {n : Nat} {m c : Mat} (hm : Sq n m) (e : closedForm m = some c) (hn : 0 < n) : Pt n (leastP c) ∧ Keeps n c (leastP c) := by
  obtain ⟨_, cl, _, _⟩ := closedForm_some hm e
  refine ⟨⟨?_, fun i hi => ?_⟩, fun i j hi hj => ?_⟩
  · unfold leastP
    rw [cl.diag 0 hn]
    rfl
  · obtain ⟨x, hx, h0⟩ := row0 hm e hi
    unfold leastP
    rw [hx]
    show 0 ≤ -x
    omega
  · obtain ⟨x, hx, h0⟩ := row0 hm e hi
    obtain ⟨y, hy, h1⟩ := row0 hm e hj
    have t := cl.tri 0 j i hn hj hi
    unfold leastP
    rw [hx, hy]
    rw [hx, hy] at t
    cases hz : ent c i j with
    | none => trivial
    | some z =>
      rw [hz] at t
      have t : y ≤ x + z := t
      show -x - -y ≤ z
      omega

/-! ## one more bound -/
def withBound (c : Mat) (i j : Nat) (w : Int) : Mat := c.set i ((c.getD i []).set j (lesserO (ent c i j) (some w)))
theorem sq_withBound {n : Nat} {c : Mat} (h : Sq n c) (i j : Nat) (w : Int) : Sq n (withBound c i j w) := by
  constructor
  · simp [withBound, h.len]
  · intro r hr
    unfold withBound at hr
    by_cases hi : i < n
    · rcases List.mem_or_eq_of_mem_set hr with hr | rfl
      · exact h.row r hr
      · obtain ⟨r', h1, h2, _⟩ := h.get hi
        rw [List.getD_eq_getElem?_getD, h1]
        simp [h2]
    · rw [List.set_eq_of_length_le (by rw [h.len]; omega)] at hr
      exact h.row r hr
theorem ent_withBound {n : Nat} {c : Mat} (h : Sq n c) {i j : Nat} (hi : i < n) (hj : j < n) (w : Int) {a b : Nat} (ha : a < n) (hb : b < n) :
    ent (withBound c i j w) a b = if a = i ∧ b = j then lesserO (ent c i j) (some w) else ent c a b := by
  obtain ⟨r, h1, h2, h3⟩ := h.get hi
  unfold withBound
  by_cases e : a = i
  · subst e
    have e1 : ent (c.set a ((c.getD a []).set j (lesserO (ent c a j) (some w)))) a b = ((c.getD a []).set j (lesserO (ent c a j) (some w))).getD b none := by
      unfold ent
      rw [List.getD_eq_getElem?_getD (l := c.set a _), List.getElem?_set_self (by rw [h.len]; exact hi)]
      rfl
    have e2 : c.getD a [] = r := by rw [List.getD_eq_getElem?_getD, h1]; rfl
    rw [e1, e2]
    by_cases e3 : b = j
    · subst e3
      rw [if_pos ⟨rfl, rfl⟩, List.getD_eq_getElem?_getD, List.getElem?_set_self (by omega)]
      rfl
    · rw [if_neg (fun q => e3 q.2), List.getD_eq_getElem?_getD, List.getElem?_set_ne (fun q => e3 q.symm), ← List.getD_eq_getElem?_getD, h3]
  · rw [if_neg (fun q => e q.1)]
    unfold ent
    rw [List.getD_eq_getElem?_getD (l := c.set i _), List.getElem?_set_ne (fun q => e q.symm), ← List.getD_eq_getElem?_getD]
/-- a closed form with one lesser bound more, where the round through it does not fall below 0 -/
theorem withBound_there {n : Nat} {c : Mat} (h : Sq n c) (cl : Cl n (ent c)) (h0 : ∀ k, k < n → Le (ent c 0 k) (some 0)) {i j : Nat} (hi : i < n) (hj : j < n) {w : Int}
    (hw : Le (some 0) (addO (ent c i j) (some w))) : ∃ f, closedForm (withBound c j i w) = some f := by
  let E : Nat → Nat → OI := fun a b => lesserO (ent c a b) (addO (addO (ent c a j) (some w)) (ent c i b))
  have low : ∀ a b, a < n → b < n → Le (ent c a b) (addO (addO (ent c a j) (some w)) (ent c i b)) → True := fun _ _ _ _ _ => trivial
  have round : ∀ a, a < n → Le (some 0) (addO (addO (ent c a j) (some w)) (ent c i a)) := fun a ha => by
    have t := cl.tri i j a hi hj ha
    have q := hw.trans (Le.add t (Le.refl (some w)))
    rw [addO_comm (addO (ent c a j) (some w)), ← addO_assoc]
    exact q
  have cE : Cl n E := by
    constructor
    · intro a ha
      show lesserO (ent c a a) _ = _
      rw [cl.diag a ha]
      exact lesser_eq_left (round a ha)
    · intro a b m ha hb hm
      show Le (lesserO _ _) (addO (lesserO _ _) (lesserO _ _))
      rcases lesser_or (ent c a m) (addO (addO (ent c a j) (some w)) (ent c i m)) with e1 | e1 <;> rcases lesser_or (ent c m b) (addO (addO (ent c m j) (some w)) (ent c i b)) with e2 | e2 <;> rw [e1, e2]
      · exact (lesser_left _ _).trans (cl.tri a b m ha hb hm)
      · refine (lesser_right _ _).trans ?_
        rw [← addO_assoc, ← addO_assoc]
        exact Le.add (Le.add (cl.tri a j m ha hj hm) (Le.refl _)) (Le.refl _)
      · refine (lesser_right _ _).trans ?_
        rw [addO_assoc (addO (ent c a j) (some w))]
        exact Le.add (Le.refl _) (cl.tri i b m hi hb hm)
      · refine (lesser_right _ _).trans ?_
        have q : Le (some 0) (addO (ent c i m) (addO (ent c m j) (some w))) := by
          rw [← addO_assoc]
          exact hw.trans (Le.add (cl.tri i j m hi hj hm) (Le.refl _))
        have q2 := Le.add (Le.add (Le.refl (addO (ent c a j) (some w))) q) (Le.refl (ent c i b))
        rw [addO_zero] at q2
        rw [addO_assoc (addO (ent c a j) (some w)) (ent c i m), ← addO_assoc (ent c i m), ← addO_assoc (addO (ent c a j) (some w))]
        exact q2
  have hE0 : ∀ a b, a < n → b < n → Le (E a b) (ent c a b) := fun a b _ _ => lesser_left _ _
  refine closedForm_there (sq_withBound h j i w) cE fun a b ha hb => le_counted ?_ fun hc => ?_
  · rw [ent_withBound h hj hi w ha hb]
    split
    · rename_i e
      obtain ⟨rfl, rfl⟩ := e
      refine le_lesser (hE0 a b ha hb) ?_
      show Le (lesserO _ _) _
      rw [cl.diag a ha, cl.diag b hb, zero_addO, addO_zero]
      exact lesser_right _ _
    · exact hE0 a b ha hb
  · refine (hE0 a b ha hb).trans ?_
    rcases hc with rfl | rfl
    · exact h0 b hb
    · rw [cl.diag a ha]
      exact Le.refl _
/-- the least point with one more bound: a point of the zone that keeps it -/
theorem pointWith_pt {n : Nat} {c f : Mat} (h : Sq n c) {i j : Nat} (hi : i < n) (hj : j < n) {w : Int} (e : closedForm (withBound c j i w) = some f) (hn : 0 < n) :
    Pt n (leastP f) ∧ Keeps n c (leastP f) ∧ leastP f j - leastP f i ≤ w := by
  obtain ⟨p, k⟩ := least_pt (sq_withBound h j i w) e hn
  have k2 := k.told (sq_withBound h j i w) e
  refine ⟨p, fun a b ha hb => ?_, ?_⟩
  · have q := k2 a b ha hb
    rw [ent_withBound h hj hi w ha hb] at q
    split at q
    · rename_i e
      obtain ⟨rfl, rfl⟩ := e
      exact q.trans (lesser_left _ _)
    · exact q
  · have q := k2 j i hj hi
    rw [ent_withBound h hj hi w hj hi, if_pos ⟨rfl, rfl⟩] at q
    exact q.trans (lesser_right _ _)

/-! ## within, outside -/
def withinO (n : Nat) : Option Mat → Option Mat → Bool
  | none, _ => true
  | some _, none => false
  | some x, some y => (List.range n).all fun i => (List.range n).all fun j => leO (ent x i j) (ent y i j)
def greaterAt (n : Nat) : Option Mat → Option Mat → Option (Nat × Nat)
  | none, _ => none
  | some _, none => some (0, 0)
  | some x, some y => ((List.range n).flatMap fun i => ((List.range n).filter fun j => !leO (ent x i j) (ent y i j)).map fun j => (i, j)).head?
theorem within_iff {n : Nat} {x y : Mat} : withinO n (some x) (some y) = true ↔ ∀ i j, i < n → j < n → Le (ent x i j) (ent y i j) := by
  unfold withinO
  rw [List.all_eq_true]
  constructor
  · intro h i j hi hj
    have q := h i (List.mem_range.mpr hi)
    rw [List.all_eq_true] at q
    exact (le_iff _ _).mp (q j (List.mem_range.mpr hj))
  · intro h i hi
    rw [List.all_eq_true]
    exact fun j hj => (le_iff _ _).mpr (h i j (List.mem_range.mp hi) (List.mem_range.mp hj))
theorem greater_some {n : Nat} {x y : Mat} {i j : Nat} (h : greaterAt n (some x) (some y) = some (i, j)) : i < n ∧ j < n ∧ leO (ent x i j) (ent y i j) = false := by
  unfold greaterAt at h
  have q := List.mem_of_head? h
  simp only [List.mem_flatMap, List.mem_map, List.mem_filter, List.mem_range] at q
  obtain ⟨a, ha, b, ⟨hb, hl⟩, e⟩ := q
  cases e
  exact ⟨ha, hb, by simpa using hl⟩
theorem greater_none {n : Nat} : ∀ {a b : Option Mat}, (greaterAt n a b = none ↔ withinO n a b = true)
  | none, _ => by simp [greaterAt, withinO]
  | some _, none => by simp [greaterAt, withinO]
  | some x, some y => by
    rw [within_iff]
    unfold greaterAt
    rw [List.head?_eq_none_iff, List.flatMap_eq_nil_iff]
    constructor
    · intro h i j hi hj
      have q := h i (List.mem_range.mpr hi)
      rw [List.map_eq_nil_iff, List.filter_eq_nil_iff] at q
      have q := q j (List.mem_range.mpr hj)
      rw [← le_iff]
      simpa using q
    · intro h i hi
      rw [List.map_eq_nil_iff, List.filter_eq_nil_iff]
      intro j hj
      have q := (le_iff _ _).mpr (h i j (List.mem_range.mp hi) (List.mem_range.mp hj))
      simp [q]
/-- the bound with which a point outside is told -/
def outW (x y : OI) : Int := match x with
  | some v => -v
  | none => -(y.getD 0) - 1
theorem outside_pt {n : Nat} {m1 m2 c1 c2 : Mat} (h1 : Sq n m1) (h2 : Sq n m2) (e1 : closedForm m1 = some c1) (e2 : closedForm m2 = some c2) (hn : 0 < n) {i j : Nat}
    (g : greaterAt n (some c1) (some c2) = some (i, j)) : ∃ f, closedForm (withBound c1 j i (outW (ent c1 i j) (ent c2 i j))) = some f ∧ Pt n (leastP f) ∧ Keeps n m1 (leastP f) ∧ ¬ Keeps n m2 (leastP f) := by
  obtain ⟨hi, hj, hl⟩ := greater_some g
  obtain ⟨s1, cl1, le1, _⟩ := closedForm_some h1 e1
  have nl : ¬ Le (ent c1 i j) (ent c2 i j) := fun q => by
    rw [(le_iff _ _).mpr q] at hl
    cases hl
  obtain ⟨y, hy⟩ : ∃ y, ent c2 i j = some y := by
    cases q : ent c2 i j with
    | none => rw [q] at nl; exact absurd trivial nl
    | some y => exact ⟨y, rfl⟩
  have hw : Le (some 0) (addO (ent c1 i j) (some (outW (ent c1 i j) (ent c2 i j)))) := by
    cases q : ent c1 i j with
    | none => trivial
    | some x =>
      show (0 : Int) ≤ x + -x
      omega
  obtain ⟨f, ef⟩ := withBound_there s1 cl1 (fun k hk => (le1 0 k hn hk).trans (counted_zero m1 k)) hi hj hw
  obtain ⟨p, k, b⟩ := pointWith_pt s1 hi hj ef hn
  refine ⟨f, ef, p, k.told h1 e1, fun k2 => ?_⟩
  have q := (k2.closed h2 e2 p) i j hi hj
  rw [hy] at q
  have q : leastP f i - leastP f j ≤ y := q
  rw [hy] at b nl
  cases hx : ent c1 i j with
  | none =>
    rw [hx] at b
    have b : leastP f j - leastP f i ≤ -y - 1 := b
    omega
  | some x =>
    rw [hx] at b nl
    have b : leastP f j - leastP f i ≤ -x := b
    have nl : ¬ x ≤ y := nl
    omega
theorem outside_empty {n : Nat} {m1 m2 c1 : Mat} (h1 : Sq n m1) (h2 : Sq n m2) (e1 : closedForm m1 = some c1) (e2 : closedForm m2 = none) (hn : 0 < n) :
    Pt n (leastP c1) ∧ Keeps n m1 (leastP c1) ∧ ¬ Keeps n m2 (leastP c1) := by
  obtain ⟨p, k⟩ := least_pt h1 e1 hn
  refine ⟨p, k.told h1 e1, fun k2 => ?_⟩
  obtain ⟨c, e⟩ := k2.there h2 p
  rw [e2] at e
  cases e

/-! ## both -/
def both (n : Nat) (a b : Mat) : Mat := tab n fun i j => lesserO (ent a i j) (ent b i j)
theorem counted_both {n : Nat} {a b : Mat} {i j : Nat} (hi : i < n) (hj : j < n) : countedAt (both n a b) i j = lesserO (countedAt a i j) (countedAt b i j) := by
  unfold countedAt both
  rw [ent_tab hi hj]
  split
  · refine Le.antisymm (le_lesser (le_lesser ?_ ?_) (le_lesser ?_ ?_)) (le_lesser (le_lesser ?_ ?_) ?_)
    · exact (lesser_left _ _).trans (lesser_left _ _)
    · exact lesser_right _ _
    · exact (lesser_left _ _).trans (lesser_right _ _)
    · exact lesser_right _ _
    · exact (lesser_left _ _).trans (lesser_left _ _)
    · exact (lesser_right _ _).trans (lesser_left _ _)
    · exact (lesser_left _ _).trans (lesser_right _ _)
  · rfl
theorem both_comm (n : Nat) (a b : Mat) : both n a b = both n b a := tab_ext fun _ _ _ _ => lesser_comm _ _
theorem met_within {n : Nat} {a b : Mat} (ha : Sq n a) (hb : Sq n b) : withinO n (closedForm (both n a b)) (closedForm a) = true := by
  cases e : closedForm (both n a b) with
  | none => rfl
  | some d =>
    obtain ⟨_, cd, ld, _⟩ := closedForm_some (n := n) (m := both n a b) (sq_tab _ _) e
    have la : ∀ i j, i < n → j < n → Le (ent d i j) (countedAt a i j) := fun i j hi hj => by
      have q := ld i j hi hj
      rw [counted_both hi hj] at q
      exact q.trans (lesser_left _ _)
    obtain ⟨c, ec⟩ := closedForm_there ha cd la
    rw [ec, within_iff]
    exact (closedForm_some ha ec).2.2.2 _ cd la
theorem met_eq {n : Nat} {a b : Mat} (ha : Sq n a) (hb : Sq n b) : closedForm (both n a b) = closedForm a ↔ withinO n (closedForm a) (closedForm b) = true := by
  cases ea : closedForm a with
  | none =>
    have : closedForm (both n a b) = none := by
      cases e : closedForm (both n a b) with
      | none => rfl
      | some d =>
        have q := met_within ha hb
        rw [e, ea] at q
        cases q
    rw [this]
    simp [withinO]
  | some c =>
    obtain ⟨sc, cc, lc, mc⟩ := closedForm_some ha ea
    cases eb : closedForm b with
    | none =>
      have : closedForm (both n a b) = none := by
        cases e : closedForm (both n a b) with
        | none => rfl
        | some d =>
          have q := met_within hb ha
          rw [both_comm, e, eb] at q
          cases q
      rw [this]
      simp [withinO]
    | some c2 =>
      obtain ⟨sc2, cc2, lc2, mc2⟩ := closedForm_some hb eb
      rw [within_iff]
      constructor
      · intro e i j hi hj
        have q := met_within hb ha
        rw [both_comm, e, eb, within_iff] at q
        exact q i j hi hj
      · intro h
        have le : ∀ i j, i < n → j < n → Le (ent c i j) (countedAt (both n a b) i j) := fun i j hi hj => by
          rw [counted_both hi hj]
          exact le_lesser (lc i j hi hj) ((h i j hi hj).trans (lc2 i j hi hj))
        obtain ⟨d, ed⟩ := closedForm_there (sq_tab n _) cc le
        have ed' : closedForm (both n a b) = some d := ed
        obtain ⟨sd, cd, ld, md⟩ := closedForm_some (sq_tab n _) ed
        have q := met_within ha hb
        rw [ed', ea, within_iff] at q
        rw [ed']
        congr 1
        exact sd.ext sc fun i j hi hj => Le.antisymm (q i j hi hj) (md _ cc le i j hi hj)

/-! ## finer -/
def scO (t : Int) : OI → OI := Option.map (· * t)
def scale (t : Int) (m : Mat) : Mat := m.map fun r => r.map (scO t)
theorem ent_scale (t : Int) (m : Mat) (i j : Nat) : ent (scale t m) i j = scO t (ent m i j) := by
  unfold ent scale
  simp only [List.getD_eq_getElem?_getD, List.getElem?_map]
  cases h : m[i]? with
  | none => simp [scO]
  | some r =>
    simp only [Option.map_some, Option.getD_some, List.getElem?_map]
    cases h : r[j]? with
    | none => simp [scO]
    | some x => simp
theorem sq_scale {n : Nat} {m : Mat} (t : Int) (h : Sq n m) : Sq n (scale t m) := by
  constructor
  · simp [scale, h.len]
  · intro r hr
    obtain ⟨r', hr', rfl⟩ := List.mem_map.mp hr
    simp [h.row r' hr']
theorem sc_lesser {t : Int} (ht : 0 < t) (a b : OI) : scO t (lesserO a b) = lesserO (scO t a) (scO t b) := by
  cases a with
  | none => cases b <;> rfl
  | some x =>
    cases b with
    | none => rfl
    | some y =>
      show some ((if y < x then y else x) * t) = some (if y * t < x * t then y * t else x * t)
      by_cases h : y < x
      · rw [if_pos h, if_pos (Int.mul_lt_mul_of_pos_right h ht)]
      · rw [if_neg h, if_neg (by have := Int.mul_le_mul_of_nonneg_right (show x ≤ y by omega) (Int.le_of_lt ht); omega)]
theorem sc_add (t : Int) (a b : OI) : scO t (addO a b) = addO (scO t a) (scO t b) := by
  cases a with
  | none => cases b <;> rfl
  | some x =>
    cases b with
    | none => rfl
    | some y =>
      show some ((x + y) * t) = some (x * t + y * t)
      rw [Int.add_mul]
theorem scale_stepI {n k : Nat} {t : Int} (ht : 0 < t) (f : Mat) (i : Nat) : stepI n k (scale t f) i = scale t (stepI n k f i) := by
  unfold stepI
  have e : stepRow n k i (scale t f) = (stepRow n k i f).map (scO t) := by
    unfold stepRow
    rw [List.map_map]
    refine List.map_congr_left fun j _ => ?_
    rw [ent_scale, ent_scale, ent_scale]
    show _ = scO t _
    rw [sc_lesser ht, sc_add]
  rw [e]
  unfold scale
  rw [List.map_set]
theorem scale_foldI {n k : Nat} {t : Int} (ht : 0 < t) : ∀ (l : List Nat) (f : Mat), l.foldl (stepI n k) (scale t f) = scale t (l.foldl (stepI n k) f)
  | [], _ => rfl
  | i :: l, f => by
    rw [List.foldl_cons, List.foldl_cons, scale_stepI ht, scale_foldI ht l]
theorem scale_foldK {n : Nat} {t : Int} (ht : 0 < t) : ∀ (l : List Nat) (f : Mat), l.foldl (stepK n) (scale t f) = scale t (l.foldl (stepK n) f)
  | [], _ => rfl
  | k :: l, f => by
    rw [List.foldl_cons, List.foldl_cons]
    have : stepK n (scale t f) k = scale t (stepK n f k) := scale_foldI ht _ f
    rw [this, scale_foldK ht l]
theorem scale_tab (t : Int) (n : Nat) (F : Nat → Nat → OI) : scale t (tab n F) = tab n fun i j => scO t (F i j) := by
  unfold scale tab
  rw [List.map_map]
  refine List.map_congr_left fun i _ => ?_
  show ((List.range n).map (F i)).map (scO t) = _
  rw [List.map_map]
  rfl
theorem counted_scale {t : Int} (ht : 0 < t) (n : Nat) (m : Mat) : counted n (scale t m) = scale t (counted n m) := by
  unfold counted
  rw [scale_tab]
  refine tab_ext fun i j _ _ => ?_
  unfold countedAt
  rw [ent_scale]
  split
  · rw [sc_lesser ht]
    congr 1
    show some 0 = some (0 * t)
    rw [Int.zero_mul]
  · rfl
theorem neg_sc {t : Int} (ht : 0 < t) (e : OI) : negO (scO t e) = negO e := by
  cases e with
  | none => rfl
  | some x =>
    show decide (x * t < 0) = decide (x < 0)
    congr 1
    refine propext ⟨fun h => ?_, fun h => ?_⟩
    · rcases Int.lt_or_le x 0 with q | q
      · exact q
      · have := Int.mul_nonneg q (Int.le_of_lt ht)
        omega
    · exact Int.mul_neg_of_neg_of_pos h ht
theorem closedForm_scale {t : Int} (ht : 0 < t) (m : Mat) : closedForm (scale t m) = (closedForm m).map (scale t) := by
  unfold closedForm
  have hl : (scale t m).length = m.length := by simp [scale]
  have e : closedRows m.length (counted m.length (scale t m)) = scale t (closedRows m.length (counted m.length m)) := by
    rw [counted_scale ht]
    exact scale_foldK ht _ _
  rw [hl, e]
  have e2 : (List.range m.length).any (fun i => negO (ent (scale t (closedRows m.length (counted m.length m))) i i)) = (List.range m.length).any (fun i => negO (ent (closedRows m.length (counted m.length m)) i i)) := by
    congr 1
    funext i
    rw [ent_scale, neg_sc ht]
  rw [e2]
  split
  · rfl
  · rfl

/-! ## the zone of one point, of all readings -/
def ptMat (n : Nat) (P : Nat → Int) : Mat := tab n fun i j => some (P i - P j)
theorem closedForm_pt {n : Nat} {P : Nat → Int} (p : Pt n P) : closedForm (ptMat n P) = some (ptMat n P) := by
  have k : Keeps n (ptMat n P) P := fun i j hi hj => by
    unfold ptMat
    rw [ent_tab hi hj]
    exact Le.refl _
  obtain ⟨c, e⟩ := k.there (sq_tab n (fun i j => some (P i - P j))) p
  rw [show closedForm (ptMat n P) = some c from e]
  congr 1
  have kc := k.closed (sq_tab n _) e p
  refine (closedForm_some (sq_tab n _) e).1.ext (sq_tab n _) fun i j hi hj => Le.antisymm ?_ ?_
  · exact ((closedForm_some (sq_tab n _) e).2.2.1 i j hi hj).trans (counted_le _ _ _)
  · have q := kc i j hi hj
    unfold ptMat
    rw [ent_tab hi hj]
    exact q
theorem pt_within {n : Nat} {P : Nat → Int} {m : Mat} (p : Pt n P) (hm : Sq n m) : withinO n (some (ptMat n P)) (closedForm m) = true ↔ Keeps n m P := by
  cases e : closedForm m with
  | none =>
    constructor
    · intro h
      cases h
    · intro k
      obtain ⟨c, e'⟩ := k.there hm p
      rw [e] at e'
      cases e'
  | some c =>
    rw [within_iff]
    constructor
    · intro h
      refine Keeps.told hm e fun i j hi hj => ?_
      have q := h i j hi hj
      unfold ptMat at q
      rw [ent_tab hi hj] at q
      exact q
    · intro k i j hi hj
      unfold ptMat
      rw [ent_tab hi hj]
      exact k.closed hm e p i j hi hj
/-- only one point keeps the bounds of one point -/
theorem pt_only {n : Nat} {P R : Nat → Int} (hn : 0 < n) (p : P 0 = 0) (r : R 0 = 0) (k : Keeps n (ptMat n P) R) : ∀ i, i < n → R i = P i := fun i hi => by
  have q1 := k i 0 hi hn
  have q2 := k 0 i hn hi
  unfold ptMat at q1 q2
  rw [ent_tab hi hn] at q1
  rw [ent_tab hn hi] at q2
  have q1 : R i - R 0 ≤ P i - P 0 := q1
  have q2 : R 0 - R i ≤ P 0 - P i := q2
  omega
def wholeMat (n : Nat) : Mat := tab n fun _ _ => none
theorem within_whole {n : Nat} (hn : 0 < n) {m : Mat} (hm : Sq n m) : withinO n (closedForm m) (closedForm (wholeMat n)) = true := by
  have p : Pt n (fun _ => 0) := ⟨rfl, fun _ _ => Int.le_refl _⟩
  have k : Keeps n (wholeMat n) (fun _ => 0) := fun i j hi hj => by
    unfold wholeMat
    rw [ent_tab hi hj]
    trivial
  obtain ⟨w, ew⟩ := k.there (m := wholeMat n) (sq_tab n _) p
  rw [ew]
  cases e : closedForm m with
  | none => rfl
  | some c =>
    rw [within_iff]
    obtain ⟨_, cl, lc, _⟩ := closedForm_some hm e
    refine (closedForm_some (sq_tab n _) ew).2.2.2 _ cl fun i j hi hj => le_counted ?_ fun hc => ?_
    · rw [ent_tab hi hj]
      cases ent c i j <;> trivial
    · refine (lc i j hi hj).trans ?_
      rcases hc with rfl | rfl
      · exact counted_zero m j
      · exact counted_diag m i
theorem whole_least {n : Nat} (hn : 0 < n) : ∃ w, closedForm (wholeMat n) = some w ∧ ∀ i, i < n → leastP w i = 0 := by
  have p : Pt n (fun _ => 0) := ⟨rfl, fun _ _ => Int.le_refl _⟩
  have k : Keeps n (wholeMat n) (fun _ => 0) := fun i j hi hj => by
    unfold wholeMat
    rw [ent_tab hi hj]
    trivial
  obtain ⟨w, ew⟩ := k.there (m := wholeMat n) (sq_tab n _) p
  refine ⟨w, ew, fun i hi => ?_⟩
  obtain ⟨x, hx, h0⟩ := row0 (sq_tab n _) ew hi
  have q := k.closed (sq_tab n _) ew p 0 i hn hi
  rw [hx] at q
  have q : (0 : Int) - 0 ≤ x := q
  unfold leastP
  rw [hx]
  show -x = 0
  omega
end K18
end

section
set_option Elab.async false
set_option linter.all false
set_option maxRecDepth 100000
set_option maxHeartbeats 4000000
namespace Ek
open PySem PySem.Spec PyProof.Rows L2 K18
open Evl (Ex ex_rd ex_l ex_t fresh_back sz_of sz_lt)

/-! ## data as the program holds them -/
def oi : OI → PyData
  | none => .none
  | some i => .int i
def rowD (r : K18.Row) : PyData := .tuple (r.map oi)
def matD (m : Mat) : PyData := .tuple (m.map rowD)
def clD : Option Mat → PyData
  | none => .none
  | some m => matD m
def frD (p : Int × Int) : PyData := .tuple [.int p.1, .int p.2]
def rdD (l : List (Int × Int)) : PyData := .tuple (l.map frD)
abbrev dI (i : Int) : PyData := .int i
abbrev dB (b : Bool) : PyData := .bool b

/-- where the written part and the two classes stand -/
structure Gd where
  K : PySem.W.Frag
  Z : Addr
  B : Addr
  /-- the dice that may be rolled, if any -/
  dd : Option Addr
/-- what a name may hold -/
inductive Ent where
  | dat (d : PyData)
  | zone (c u : Int) (m : Mat)
  | known (m : Mat)
  | dice
def Rep (G : Gd) (H : Hp) (v : V) : Ent → Prop
  | .dat d => Dp G.K H v d
  | .zone c u m => ∃ a dx vc vt, v = .ref a ∧ SlX.Slt H a G.Z dx [some (.int c), some vc, some vt, some (.int u)] ∧ Dp G.K H vc (clD (closedForm m)) ∧ Dp G.K H vt (matD m)
  | .known m => ∃ a dx vt, v = .ref a ∧ SlX.Slt H a G.B dx [some vt] ∧ Dp G.K H vt (matD m)
  | .dice => ∃ a, G.dd = some a ∧ v = .ref a

section
variable {K : PySem.W.Frag} {H H' : Hp}
mutual
theorem dp_mono (e : Ex H H') : ∀ (d : PyData) (v : V), Dp K H v d → Dp K H' v d
  | .none, _, h => by cases h; exact .non
  | .bool b, _, h => by cases h; exact .bl b
  | .int i, _, h => by cases h; exact .int i
  | .str x, _, h => by cases h; exact .str x
  | .list ds, _, h => by
    cases h with
    | lst hs ha => exact .lst (ex_l e hs) (dpAll_mono e ds _ ha)
  | .tuple ds, _, h => by
    cases h with
    | tup hs ha => exact .tup (ex_t e hs) (dpAll_mono e ds _ ha)
  | .dict _, _, h => by cases h
theorem dpAll_mono (e : Ex H H') : ∀ (ds : List PyData) (vs : List V), DpAll K H vs ds → DpAll K H' vs ds
  | [], _, h => by cases h; exact .nil
  | d :: ds, _, h => by
    cases h with
    | cons h1 h2 => exact .cons (dp_mono e d _ h1) (dpAll_mono e ds _ h2)
end
theorem slt_mono (e : Ex H H') {a C dx : Addr} {vs : List (Option V)} (h : SlX.Slt H a C dx vs) : SlX.Slt H' a C dx vs := by
  rcases h with ⟨h1, h2⟩ | ⟨h1, h2⟩
  · exact .inl ⟨e _ _ h1, h2⟩
  · exact .inr ⟨e _ _ h1, e _ _ h2⟩
end
theorem rep_mono {G : Gd} {H H' : Hp} (e : Ex H H') {v : V} : ∀ {x : Ent}, Rep G H v x → Rep G H' v x
  | .dat d, h => dp_mono e d v h
  | .zone c u m, ⟨a, dx, vc, vt, h1, h2, h3, h4⟩ => ⟨a, dx, vc, vt, h1, slt_mono e h2, dp_mono e _ _ h3, dp_mono e _ _ h4⟩
  | .known m, ⟨a, dx, vt, h1, h2, h3⟩ => ⟨a, dx, vt, h1, slt_mono e h2, dp_mono e _ _ h3⟩
  | .dice, h => h
abbrev RepL (G : Gd) (H : Hp) (vs : List V) (es : List Ent) : Prop := Paired (Rep G H) vs es
theorem repL_mono {G : Gd} {H H' : Hp} (e : Ex H H') {vs : List V} {es : List Ent} (h : RepL G H vs es) : RepL G H' vs es := L2.Paired.mapP h fun _ _ => rep_mono e
theorem dpAll_len {K : PySem.W.Frag} {H : Hp} : ∀ {vs : List V} {ds : List PyData}, DpAll K H vs ds → vs.length = ds.length
  | _, _, .nil => rfl
  | _, _, .cons _ h => congrArg (· + 1) (dpAll_len h)
theorem dpAll_get {K : PySem.W.Frag} {H : Hp} : ∀ {vs : List V} {ds : List PyData} (i : Nat) {v : V}, DpAll K H vs ds → vs[i]? = some v → ∃ d, ds[i]? = some d ∧ Dp K H v d
  | _, _, _, _, .nil, h => by simp at h
  | _, _, 0, v, .cons h1 _, h => by
    simp at h
    subst h
    exact ⟨_, rfl, h1⟩
  | _, _, i + 1, v, .cons _ h2, h => by
    obtain ⟨d, e, r⟩ := dpAll_get i h2 (by simpa using h)
    exact ⟨d, by simpa using e, r⟩
theorem dpAll_get' {K : PySem.W.Frag} {H : Hp} : ∀ {vs : List V} {ds : List PyData} (i : Nat) {d : PyData}, DpAll K H vs ds → ds[i]? = some d → ∃ v, vs[i]? = some v ∧ Dp K H v d
  | _, _, _, _, .nil, h => by simp at h
  | _, _, 0, v, .cons h1 _, h => by
    simp at h
    subst h
    exact ⟨_, rfl, h1⟩
  | _, _, i + 1, v, .cons _ h2, h => by
    obtain ⟨d, e, r⟩ := dpAll_get' i h2 (by simpa using h)
    exact ⟨d, by simpa using e, r⟩
theorem dpAll_append {K : PySem.W.Frag} {H : Hp} : ∀ {vs ws : List V} {ds es : List PyData}, DpAll K H vs ds → DpAll K H ws es → DpAll K H (vs ++ ws) (ds ++ es)
  | _, _, _, _, .nil, h => h
  | _, _, _, _, .cons h1 h2, h => .cons h1 (dpAll_append h2 h)
theorem dpAll_of_repL {G : Gd} {H : Hp} : ∀ {vs : List V} {ds : List PyData}, RepL G H vs (ds.map .dat) → DpAll G.K H vs ds
  | _, [], .nil => .nil
  | _, _ :: _, .cons h1 h2 => .cons h1 (dpAll_of_repL h2)
theorem dp_int {K : PySem.W.Frag} {H : Hp} {v : V} {i : Int} (h : Dp K H v (.int i)) : v = .int i := by cases h; rfl
theorem dp_bool {K : PySem.W.Frag} {H : Hp} {v : V} {b : Bool} (h : Dp K H v (.bool b)) : v = .bl b := by cases h; rfl
theorem dp_none {K : PySem.W.Frag} {H : Hp} {v : V} (h : Dp K H v .none) : v = .non := by cases h; rfl
theorem dp_tup {K : PySem.W.Frag} {H : Hp} {v : V} {ds : List PyData} (h : Dp K H v (.tuple ds)) : ∃ a xs, v = .ref a ∧ SqT K H a xs ∧ DpAll K H xs ds := by
  cases h with
  | tup hs ha => exact ⟨_, _, rfl, hs, ha⟩
theorem dp_lst {K : PySem.W.Frag} {H : Hp} {v : V} {ds : List PyData} (h : Dp K H v (.list ds)) : ∃ a xs, v = .ref a ∧ SqL K H a xs ∧ DpAll K H xs ds := by
  cases h with
  | lst hs ha => exact ⟨_, _, rfl, hs, ha⟩

/-! ## views: the heap without what is hidden -/
def vw (S : List Addr) (H : Hp) : Hp := fun a => if a ∈ S then none else H a
def Dom (S : List Addr) (H : Hp) : Prop := ∀ a, a ∈ S → H a ≠ none
theorem vw_in {S : List Addr} {H : Hp} {a : Addr} (h : a ∈ S) : vw S H a = none := if_pos h
theorem vw_out {S : List Addr} {H : Hp} {a : Addr} (h : a ∉ S) : vw S H a = H a := if_neg h
theorem vw_some {S : List Addr} {H : Hp} {a : Addr} {o : HO} (h : vw S H a = some o) : a ∉ S ∧ H a = some o := by
  by_cases k : a ∈ S
  · rw [vw_in k] at h
    cases h
  · rw [vw_out k] at h
    exact ⟨k, h⟩
theorem vw_le {S : List Addr} {H : Hp} : Ex (vw S H) H := fun _ _ h => (vw_some h).2
theorem vw_mono {S : List Addr} {H H' : Hp} (e : Ex H H') : Ex (vw S H) (vw S H') := fun a o h => by
  obtain ⟨h1, h2⟩ := vw_some h
  rw [vw_out h1]
  exact e a o h2
theorem vw_sub {S T : List Addr} {H : Hp} (h : ∀ a, a ∈ T → a ∈ S) : Ex (vw S H) (vw T H) := fun a o k => by
  obtain ⟨h1, h2⟩ := vw_some k
  rw [vw_out fun q => h1 (h a q)]
  exact h2
theorem Dom.mono {S : List Addr} {H H' : Hp} (d : Dom S H) (e : Ex H H') : Dom S H' := fun a h k => by
  cases q : H a with
  | none => exact d a h q
  | some o =>
    rw [e a o q] at k
    cases k
theorem Dom.new {S : List Addr} {H : Hp} (d : Dom S H) {p : Addr} (h : H p = none) : p ∉ S := fun k => d p k h
theorem vw_new {S : List Addr} {H : Hp} {p : Addr} {o : HO} (h : p ∉ S) : vw S (upd H p o) = upd (vw S H) p o := by
  funext a
  by_cases e : a = p
  · subst e
    rw [vw_out h, upd_same, upd_same]
  · rw [upd_ne e]
    by_cases k : a ∈ S
    · rw [vw_in k, vw_in k]
    · rw [vw_out k, vw_out k, upd_ne e]
theorem vw_hid {S : List Addr} {H : Hp} {p : Addr} {o : HO} (h : p ∈ S) : vw S (upd H p o) = vw S H := by
  funext a
  by_cases k : a ∈ S
  · rw [vw_in k, vw_in k]
  · rw [vw_out k, vw_out k, upd_ne fun e => k (by rw [e]; exact h)]
/-- one more is hidden that was not there -/
theorem vw_more {S : List Addr} {H H' : Hp} {p : Addr} (e : Ex H H') (h : H p = none) : Ex (vw S H) (vw (p :: S) H') := fun a o k => by
  obtain ⟨h1, h2⟩ := vw_some k
  have : a ≠ p := ne_of_none h2 h
  rw [vw_out (by simp [this, h1])]
  exact e a o h2
theorem vw_sub2 {S : List Addr} {H H' : Hp} {p : Addr} (e : Ex H H') : Ex (vw (p :: S) H) (vw S H') := (vw_sub fun _ z => List.mem_cons_of_mem _ z).trans (vw_mono e)
theorem vw_at {S : List Addr} {H : Hp} {p : Addr} {o : HO} (d : Dom S H) (h : H p = none) : vw S (upd H p o) p = some o := by
  rw [vw_out (d.new h), upd_same]
theorem vw_ex_new {S : List Addr} {H : Hp} {p : Addr} {o : HO} (h : H p = none) : Ex (vw S H) (vw S (upd H p o)) := vw_mono (Ex.new h)

/-! ## slots and what they hold -/
abbrev Rho := List (Option Ent)
structure Env (G : Gd) (S : List Addr) (σ : L2.St) (H : Hp) (ρ : Rho) : Prop where
  dom : Dom S H
  len : σ.length = ρ.length
  at_ : ∀ (i : Nat) (e : Ent), ρ[i]? = some (some e) → ∃ v, σ[i]? = some (some v) ∧ Rep G (vw S H) v e
theorem Env.view {G : Gd} {S T : List Addr} {σ : L2.St} {H H' : Hp} {ρ : Rho} (x : Env G S σ H ρ) (d : Dom T H') (e : Ex (vw S H) (vw T H')) : Env G T σ H' ρ :=
  ⟨d, x.len, fun i y h => let ⟨v, h1, h2⟩ := x.at_ i y h; ⟨v, h1, rep_mono e h2⟩⟩
theorem Env.mono {G : Gd} {S : List Addr} {σ : L2.St} {H H' : Hp} {ρ : Rho} (x : Env G S σ H ρ) (e : Ex H H') : Env G S σ H' ρ := x.view (x.dom.mono e) (vw_mono e)
theorem Env.set {G : Gd} {S : List Addr} {σ : L2.St} {H : Hp} {ρ : Rho} (x : Env G S σ H ρ) (i : Nat) {v : V} {e : Ent} (r : Rep G (vw S H) v e) : Env G S (σ.set i (some v)) H (ρ.set i (some e)) := by
  refine ⟨x.dom, by rw [List.length_set, List.length_set]; exact x.len, fun j y h => ?_⟩
  by_cases hj : i = j
  · subst hj
    by_cases hl : i < ρ.length
    · rw [List.getElem?_set_self hl] at h
      cases h
      exact ⟨v, List.getElem?_set_self (by rw [x.len]; exact hl), r⟩
    · rw [List.getElem?_eq_none (by rw [List.length_set]; omega)] at h
      cases h
  · rw [List.getElem?_set_ne hj] at h
    obtain ⟨w, h1, h2⟩ := x.at_ j y h
    exact ⟨w, by rw [List.getElem?_set_ne hj]; exact h1, h2⟩
/-- forgetting -/
def Weak : Rho → Rho → Prop
  | [], [] => True
  | _ :: r, none :: s => Weak r s
  | some x :: r, some y :: s => x = y ∧ Weak r s
  | _, _ => False
theorem Weak.len : ∀ {r s : Rho}, Weak r s → r.length = s.length
  | [], [], _ => rfl
  | _ :: r, none :: s, h => congrArg (· + 1) (Weak.len (r := r) (s := s) (by cases ‹Option Ent› <;> exact h))
  | some _ :: r, some _ :: s, h => congrArg (· + 1) (Weak.len h.2)
theorem Weak.get : ∀ {r s : Rho} (i : Nat) {e : Ent}, Weak r s → s[i]? = some (some e) → r[i]? = some (some e)
  | [], [], _, _, _, h => by simp at h
  | _ :: r, none :: s, 0, _, _, h => by simp at h
  | _ :: r, none :: s, i + 1, _, w, h => by
    have := Weak.get (r := r) (s := s) i (by cases ‹Option Ent› <;> exact w) (by simpa using h)
    simpa using this
  | some x :: r, some y :: s, 0, _, w, h => by
    obtain ⟨rfl, _⟩ := w
    simpa using h
  | some _ :: r, some _ :: s, i + 1, _, w, h => by
    have := Weak.get (r := r) (s := s) i w.2 (by simpa using h)
    simpa using this
theorem Weak.refl : ∀ r : Rho, Weak r r
  | [] => trivial
  | none :: r => Weak.refl r
  | some _ :: r => ⟨rfl, Weak.refl r⟩
theorem Env.weak {G : Gd} {S : List Addr} {σ : L2.St} {H : Hp} {r s : Rho} (x : Env G S σ H r) (w : Weak r s) : Env G S σ H s :=
  ⟨x.dom, x.len.trans w.len, fun i e h => x.at_ i e (w.get i h)⟩
/-- the slots of a comprehension's own names forgotten -/
def wipeR (ρ : Rho) : List Nat → Rho
  | [] => ρ
  | v :: vs => (wipeR ρ vs).set v none
theorem wipeR_len (ρ : Rho) : ∀ vs, (wipeR ρ vs).length = ρ.length
  | [] => rfl
  | v :: vs => by unfold wipeR; rw [List.length_set, wipeR_len ρ vs]
theorem Env.wipe {G : Gd} {S : List Addr} {σ : L2.St} {H : Hp} {ρ : Rho} (x : Env G S σ H ρ) : ∀ vs, Env G S (L2.wipe σ vs) H (wipeR ρ vs)
  | [] => x
  | v :: vs => by
    have ih := Env.wipe x vs
    unfold L2.wipe wipeR
    refine ⟨x.dom, by rw [List.length_set, List.length_set]; exact ih.len, fun j y h => ?_⟩
    by_cases hj : v = j
    · subst hj
      by_cases hl : v < (wipeR ρ vs).length
      · rw [List.getElem?_set_self hl] at h
        cases h
      · rw [List.getElem?_eq_none (by rw [List.length_set]; omega)] at h
        cases h
    · rw [List.getElem?_set_ne hj] at h
      obtain ⟨w, h1, h2⟩ := ih.at_ j y h
      exact ⟨w, by rw [List.getElem?_set_ne hj]; exact h1, h2⟩

/-! ## what evaluates to what -/
section
variable (G : Gd)
def Ev (te : TE) (ρ : Rho) (e : Ent) : Prop := ∀ S σ H, Env G S σ H ρ → ∀ Q : VK, (∀ v H', Ex H H' → Rep G (vw S H') v e → Q v H') → te σ H Q
/-- a new list -/
def El (te : TE) (ρ : Rho) (ds : List PyData) : Prop := ∀ S σ H, Env G S σ H ρ → ∀ Q : VK, (∀ p xs H', H p = none → Ex H H' → H' p = some (.lst xs) → DpAll G.K (vw (p :: S) H') xs ds → Q (.ref p) H') → te σ H Q
def Et (tt : TT) (ρ : Rho) (b : Bool) : Prop := ∀ S σ H, Env G S σ H ρ → ∀ Q : Bool → Hp → Prop, (∀ H', Ex H H' → Q b H') → tt σ H Q
def Ea (ta : TA) (ρ : Rho) (es : List Ent) : Prop := ∀ S σ H, Env G S σ H ρ → ∀ Q : List V → Hp → Prop, (∀ vs H', Ex H H' → RepL G (vw S H') vs es → Q vs H') → ta σ H Q
end
abbrev Ed (G : Gd) (te : TE) (ρ : Rho) (d : PyData) : Prop := Ev G te ρ (.dat d)
theorem tup_of {K : PySem.W.Frag} {S : List Addr} {H : Hp} {v : V} {ds : List PyData} (h : Dp K (vw S H) v (.tuple ds)) : ∃ a xs, v = .ref a ∧ SqT K H a xs ∧ DpAll K (vw S H) xs ds := by
  obtain ⟨a, xs, h1, h2, h3⟩ := dp_tup h
  exact ⟨a, xs, h1, ex_t vw_le h2, h3⟩
theorem lst_of {K : PySem.W.Frag} {S : List Addr} {H : Hp} {v : V} {ds : List PyData} (h : Dp K (vw S H) v (.list ds)) : ∃ a xs, v = .ref a ∧ SqL K H a xs ∧ DpAll K (vw S H) xs ds := by
  obtain ⟨a, xs, h1, h2, h3⟩ := dp_lst h
  exact ⟨a, xs, h1, ex_l vw_le h2, h3⟩
section
variable {G : Gd} {ρ : Rho} {ta tb tc te : TE} {t u : TT} {x y : Ent} {d e : PyData}
theorem El.ed {ds : List PyData} (h : El G te ρ ds) : Ed G te ρ (.list ds) := fun S σ H E Q q => h S σ H E Q fun p xs H' n0 e h1 h2 => q (.ref p) H' e (.lst (.inl (.inl (by rw [vw_out ((E.dom.new (show H p = none from n0)))]; exact h1))) (dpAll_mono (vw_sub (fun _ z => List.mem_cons_of_mem _ z)) _ _ h2))
theorem Ev.to (h : Ev G te ρ x) (e : x = y) : Ev G te ρ y := e ▸ h
theorem Et.to {b c : Bool} (h : Et G t ρ b) (e : b = c) : Et G t ρ c := e ▸ h
theorem ev_var {i : Nat} (h : ρ[i]? = some (some x)) : Ev G (tVar i) ρ x := fun S σ H E Q q => by
  obtain ⟨v, h1, h2⟩ := E.at_ i x h
  exact ⟨v, h1, q v H (Ex.refl H) h2⟩
theorem ev_int {i : Int} : Ed G (tC (.int i)) ρ (.int i) := fun S σ H E Q q => q _ H (Ex.refl H) (.int i)
theorem ev_bl {b : Bool} : Ed G (tC (.bl b)) ρ (.bool b) := fun S σ H E Q q => q _ H (Ex.refl H) (.bl b)
theorem ev_non : Ed G (tC .non) ρ .none := fun S σ H E Q q => q _ H (Ex.refl H) .non
theorem ev_str {z : Str} : Ed G (tC (.str z)) ρ (.str z) := fun S σ H E Q q => q _ H (Ex.refl H) (.str z)
/-- an operation on values -/
def Ro (G : Gd) (r : R2) (x y z : Ent) : Prop := ∀ S H v w, Dom S H → Rep G (vw S H) v x → Rep G (vw S H) w y → ∀ Q : VK, (∀ u H', Ex H H' → Rep G (vw S H') u z → Q u H') → r v w H Q
theorem ev_op {r : R2} {z : Ent} (ha : Ev G ta ρ x) (hb : Ev G tb ρ y) (hr : Ro G r x y z) : Ev G (tOp r ta tb) ρ z := fun S σ H E Q q =>
  ha S σ H E _ fun v H1 e1 r1 => hb S σ H1 (E.mono e1) _ fun w H2 e2 r2 => hr S H2 v w ((E.mono (e1.trans e2)).dom) (rep_mono (vw_mono e2) r1) r2 Q fun u H3 e3 r3 => q u H3 ((e1.trans e2).trans e3) r3
theorem ro_I0 {g : Int → Int → Int} {i j : Int} : Ro G (rI0 fun i j => .int (g i j)) (.dat (.int i)) (.dat (.int j)) (.dat (.int (g i j))) := fun S H v w dm h1 h2 Q q => by
  cases dp_int h1
  cases dp_int h2
  exact ⟨i, j, rfl, rfl, q _ H (Ex.refl H) (.int _)⟩
theorem ro_B0 {g : Int → Int → Bool} {i j : Int} : Ro G (rI0 fun i j => .bl (g i j)) (.dat (.int i)) (.dat (.int j)) (.dat (.bool (g i j))) := fun S H v w dm h1 h2 Q q => by
  cases dp_int h1
  cases dp_int h2
  exact ⟨i, j, rfl, rfl, q _ H (Ex.refl H) (.bl _)⟩
theorem ro_I {C : Int → Int → Prop} {g : Int → Int → Int} {i j : Int} (hc : C i j) : Ro G (rI C fun i j => .int (g i j)) (.dat (.int i)) (.dat (.int j)) (.dat (.int (g i j))) := fun S H v w dm h1 h2 Q q => by
  cases dp_int h1
  cases dp_int h2
  exact ⟨i, j, rfl, rfl, hc, q _ H (Ex.refl H) (.int _)⟩
theorem ev_I0 {g : Int → Int → Int} {i j : Int} (ha : Ed G ta ρ (.int i)) (hb : Ed G tb ρ (.int j)) : Ed G (tOp (rI0 fun i j => .int (g i j)) ta tb) ρ (.int (g i j)) := ev_op ha hb ro_I0
theorem ev_B0 {g : Int → Int → Bool} {i j : Int} (ha : Ed G ta ρ (.int i)) (hb : Ed G tb ρ (.int j)) : Ed G (tOp (rI0 fun i j => .bl (g i j)) ta tb) ρ (.bool (g i j)) := ev_op ha hb ro_B0
theorem ev_I {C : Int → Int → Prop} {g : Int → Int → Int} {i j : Int} (ha : Ed G ta ρ (.int i)) (hb : Ed G tb ρ (.int j)) (hc : C i j) : Ed G (tOp (rI C fun i j => .int (g i j)) ta tb) ρ (.int (g i j)) := ev_op ha hb (ro_I hc)
theorem ev_neg {i : Int} (ha : Ed G ta ρ (.int i)) : Ed G (tUn (rU fun i => .int (-i)) ta) ρ (.int (-i)) := fun S σ H E Q q => ha S σ H E _ fun v H1 e1 r1 => by
  cases dp_int r1
  exact ⟨i, rfl, q _ H1 e1 (.int _)⟩
theorem ev_ixT {ds : List PyData} {i : Int} (ha : Ed G ta ρ (.tuple ds)) (hb : Ed G tb ρ (.int i)) (h : atI ds i = some d) : Ed G (tOp (rIxT G.K) ta tb) ρ d := ev_op ha hb fun S H v w dm h1 h2 Q q => by
  obtain ⟨a, xs, rfl, hs, hd⟩ := tup_of h1
  cases dp_int h2
  obtain ⟨j, e1, e2, _⟩ := atI_get h
  obtain ⟨z, e3, r⟩ := dpAll_get' j hd e2
  refine ⟨a, xs, i, z, rfl, rfl, hs, ?_, q z H (Ex.refl H) r⟩
  unfold atI at h ⊢
  rw [dpAll_len hd]
  cases e : ixN ds.length i with
  | none => rw [e] at h; cases h
  | some k =>
    obtain ⟨e4, _⟩ := ixN_seq e
    rw [e1] at e4
    cases e4
    exact e3
theorem ev_ixL {ds : List PyData} {i : Int} (ha : Ed G ta ρ (.list ds)) (hb : Ed G tb ρ (.int i)) (h : atI ds i = some d) : Ed G (tOp (rIxL G.K) ta tb) ρ d := ev_op ha hb fun S H v w dm h1 h2 Q q => by
  obtain ⟨a, xs, rfl, hs, hd⟩ := lst_of h1
  cases dp_int h2
  obtain ⟨j, e1, e2, _⟩ := atI_get h
  obtain ⟨z, e3, r⟩ := dpAll_get' j hd e2
  refine ⟨a, xs, i, z, rfl, rfl, hs, ?_, q z H (Ex.refl H) r⟩
  unfold atI at h ⊢
  rw [dpAll_len hd]
  cases e : ixN ds.length i with
  | none => rw [e] at h; cases h
  | some k =>
    obtain ⟨e4, _⟩ := ixN_seq e
    rw [e1] at e4
    cases e4
    exact e3
/-- is None, is not None -/
def isN : Ent → Bool
  | .dat .none => true
  | _ => false
theorem rep_isN {H : Hp} {v : V} (h : Rep G H v x) : decide (v = V.non) = isN x := by
  cases x with
  | dat d => cases h <;> simp [isN]
  | zone c u m => obtain ⟨a, dx, vc, vt, rfl, _⟩ := h; simp [isN]
  | known m => obtain ⟨a, dx, vt, rfl, _⟩ := h; simp [isN]
  | dice => obtain ⟨a, p, q, r, rfl, _⟩ := h; simp [isN]
theorem ev_isN (ha : Ev G ta ρ x) : Ed G (tOp (fun x y H Q => y = .non ∧ Q (.bl (decide (x = .non))) H) ta (tC .non)) ρ (.bool (isN x)) := fun S σ H E Q q => ha S σ H E _ fun v H1 e1 r1 => ⟨rfl, by
  rw [rep_isN r1]
  exact q _ H1 e1 (.bl _)⟩
theorem ev_notN (ha : Ev G ta ρ x) : Ed G (tOp (fun x y H Q => y = .non ∧ Q (.bl (!decide (x = .non))) H) ta (tC .non)) ρ (.bool (!isN x)) := fun S σ H E Q q => ha S σ H E _ fun v H1 e1 r1 => ⟨rfl, by
  rw [rep_isN r1]
  exact q _ H1 e1 (.bl _)⟩
theorem ev_eqI {i j : Int} (ha : Ed G ta ρ (.int i)) (hb : Ed G tb ρ (.int j)) : Ed G (tOp rEq ta tb) ρ (.bool (decide (i = j))) := ev_op ha hb fun S H v w dm h1 h2 Q q => by
  cases dp_int h1
  cases dp_int h2
  refine ⟨rfl, q _ H (Ex.refl H) ?_⟩
  have : decide (V.int i = V.int j) = decide (i = j) := by simp
  rw [this]
  exact .bl _
theorem ev_neI {i j : Int} (ha : Ed G ta ρ (.int i)) (hb : Ed G tb ρ (.int j)) : Ed G (tOp rNe ta tb) ρ (.bool (!decide (i = j))) := ev_op ha hb fun S H v w dm h1 h2 Q q => by
  cases dp_int h1
  cases dp_int h2
  refine ⟨rfl, q _ H (Ex.refl H) ?_⟩
  have : decide (V.int i = V.int j) = decide (i = j) := by simp
  rw [this]
  exact .bl _
theorem ev_neB {i j : Bool} (ha : Ed G ta ρ (.bool i)) (hb : Ed G tb ρ (.bool j)) : Ed G (tOp rNe ta tb) ρ (.bool (!decide (i = j))) := ev_op ha hb fun S H v w dm h1 h2 Q q => by
  cases dp_bool h1
  cases dp_bool h2
  refine ⟨rfl, q _ H (Ex.refl H) ?_⟩
  have : decide (V.bl i = V.bl j) = decide (i = j) := by simp
  rw [this]
  exact .bl _
theorem ev_neS {i j : Str} (ha : Ed G ta ρ (.str i)) (hb : Ed G tb ρ (.str j)) : Ed G (tOp rNe ta tb) ρ (.bool (!decide (i = j))) := ev_op ha hb fun S H v w dm h1 h2 Q q => by
  cases h1
  cases h2
  refine ⟨rfl, q _ H (Ex.refl H) ?_⟩
  have : decide (V.str i = V.str j) = decide (i = j) := by simp
  rw [this]
  exact .bl _
theorem ev_eqD (ha : Ed G ta ρ d) (hb : Ed G tb ρ e) (hd : SeqAt.shaped d = true) (he : SeqAt.shaped e = true) : Ed G (tOp (rEqD G.K) ta tb) ρ (.bool (PyData.eqv d e)) := ev_op ha hb fun S H v w dm h1 h2 Q q =>
  ⟨d, e, dp_mono vw_le _ _ h1, dp_mono vw_le _ _ h2, hd, he, q _ H (Ex.refl H) (.bl _)⟩
theorem ev_neD (ha : Ed G ta ρ d) (hb : Ed G tb ρ e) (hd : SeqAt.shaped d = true) (he : SeqAt.shaped e = true) : Ed G (tOp (rNeD G.K) ta tb) ρ (.bool (!PyData.eqv d e)) := ev_op ha hb fun S H v w dm h1 h2 Q q =>
  ⟨d, e, dp_mono vw_le _ _ h1, dp_mono vw_le _ _ h2, hd, he, q _ H (Ex.refl H) (.bl _)⟩
/-- x in (a, b, ..) of flat things -/
def flatD : PyData → Bool
  | .none => true
  | .bool _ => true
  | .int _ => true
  | _ => false
def eqF : PyData → PyData → Bool
  | .none, .none => true
  | .bool a, .bool b => a == b
  | .bool a, .int b => (if a then 1 else 0) == b
  | .int a, .bool b => a == (if b then 1 else 0)
  | .int a, .int b => a == b
  | _, _ => false
def inD (d : PyData) (ds : List PyData) : Bool := ds.any fun y => eqF y d
theorem flat_rep {K : PySem.W.Frag} {H : Hp} {v : V} (h : Dp K H v d) (hf : flatD d = true) : flatV v = true := by
  cases h <;> first | rfl | cases hf
theorem eq_rep {K : PySem.W.Frag} {H : Hp} {v w : V} (h : Dp K H v d) (k : Dp K H w e) (hf : flatD d = true) (kf : flatD e = true) : eqV v w = eqF d e := by
  cases h <;> first
    | (cases k <;> first | rfl | cases kf)
    | cases hf
theorem flats_rep {K : PySem.W.Frag} {H : Hp} : ∀ {vs : List V} {ds : List PyData}, DpAll K H vs ds → ds.all flatD = true → vs.all flatV = true
  | _, _, .nil, _ => rfl
  | _, _, .cons h1 h2, h => by
    rw [List.all_cons, Bool.and_eq_true] at h
    rw [List.all_cons, flat_rep h1 h.1, flats_rep h2 h.2]
    rfl
theorem in_rep {K : PySem.W.Frag} {H : Hp} {w : V} (k : Dp K H w d) (kf : flatD d = true) : ∀ {vs : List V} {ds : List PyData}, DpAll K H vs ds → ds.all flatD = true → inV w vs = inD d ds
  | _, _, .nil, _ => rfl
  | _, _, .cons h1 h2, h => by
    rw [List.all_cons, Bool.and_eq_true] at h
    have ih := in_rep k kf h2 h.2
    unfold inV inD at *
    rw [List.any_cons, List.any_cons, ih, eq_rep h1 k h.1 kf]
theorem ev_in {ds : List PyData} (ha : Ed G ta ρ d) (hb : Ed G tb ρ (.tuple ds) ∨ Ed G tb ρ (.list ds)) (hf : flatD d = true) (hd : ds.all flatD = true) (neg : Bool) :
    Ed G (tOp (rIn G.K neg) ta tb) ρ (.bool (if neg then !inD d ds else inD d ds)) := by
  rcases hb with hb | hb
  · refine ev_op ha hb fun S H v w dm h1 h2 Q q => ?_
    obtain ⟨a, xs, rfl, hs, hx⟩ := tup_of h2
    refine ⟨a, xs, rfl, .inr hs, flat_rep h1 hf, flats_rep hx hd, ?_⟩
    rw [in_rep h1 hf hx hd]
    exact q _ H (Ex.refl H) (.bl _)
  · refine ev_op ha hb fun S H v w dm h1 h2 Q q => ?_
    obtain ⟨a, xs, rfl, hs, hx⟩ := lst_of h2
    refine ⟨a, xs, rfl, .inl hs, flat_rep h1 hf, flats_rep hx hd, ?_⟩
    rw [in_rep h1 hf hx hd]
    exact q _ H (Ex.refl H) (.bl _)
/-- a < b < c -/
theorem ev_chain {r r' : R2} {z : Ent} {b c : Bool} (ha : Ev G ta ρ x) (hb : Ev G tb ρ y) (hr : Ro G r x y (.dat (.bool b))) (hc : b = true → Ev G tc ρ z ∧ Ro G r' y z (.dat (.bool c))) :
    Ed G (tChain r r' ta tb tc) ρ (.bool (b && c)) := fun S σ H E Q q => ha S σ H E _ fun v H1 e1 r1 => hb S σ H1 (E.mono e1) _ fun w H2 e2 r2 => hr S H2 v w ((E.mono (e1.trans e2)).dom) (rep_mono (vw_mono e2) r1) r2 _ fun k H3 e3 r3 => by
  cases dp_bool r3
  refine ⟨b, rfl, ?_⟩
  cases b with
  | true =>
    rw [if_pos rfl]
    obtain ⟨h1, h2⟩ := hc rfl
    exact h1 S σ H3 (E.mono ((e1.trans e2).trans e3)) _ fun w' H4 e4 r4 => h2 S H4 w w' ((E.mono (((e1.trans e2).trans e3).trans e4)).dom) (rep_mono (vw_mono (e3.trans e4)) r2) r4 Q fun u H5 e5 r5 => q u H5 ((((e1.trans e2).trans e3).trans e4).trans e5) r5
  | false =>
    rw [if_neg Bool.false_ne_true]
    exact q _ H3 ((e1.trans e2).trans e3) (.bl _)

/-! ### tests -/
theorem et_test {b : Bool} (h : Ed G te ρ (.bool b)) : Et G (tTest te) ρ b := fun S σ H E Q q => h S σ H E _ fun v H1 e1 r1 => ⟨b, dp_bool r1, q H1 e1⟩
theorem et_B {b : Bool} (h : Ed G te ρ (.bool b)) : Et G (tB te) ρ b := fun S σ H E Q q => h S σ H E _ fun v H1 e1 r1 => ⟨b, dp_bool r1, q H1 e1⟩
theorem et_and {a b : Bool} (h1 : Et G t ρ a) (h2 : a = true → Et G u ρ b) : Et G (tAnd t u) ρ (a && b) := fun S σ H E Q q => h1 S σ H E _ fun H1 e1 => by
  cases a with
  | true =>
    show u σ H1 Q
    exact h2 rfl S σ H1 (E.mono e1) Q fun H2 e2 => q H2 (e1.trans e2)
  | false => exact q H1 e1
theorem et_or {a b : Bool} (h1 : Et G t ρ a) (h2 : a = false → Et G u ρ b) : Et G (tOr t u) ρ (a || b) := fun S σ H E Q q => h1 S σ H E _ fun H1 e1 => by
  cases a with
  | true => exact q H1 e1
  | false =>
    show u σ H1 Q
    exact h2 rfl S σ H1 (E.mono e1) Q fun H2 e2 => q H2 (e1.trans e2)
theorem et_not {a : Bool} (h1 : Et G t ρ a) : Et G (tNot t) ρ (!a) := fun S σ H E Q q => h1 S σ H E _ fun H1 e1 => q H1 e1
theorem ev_andV {a b : Bool} (h1 : Ed G ta ρ (.bool a)) (h2 : a = true → Ed G tb ρ (.bool b)) : Ed G (tAndV ta tb) ρ (.bool (a && b)) := fun S σ H E Q q => h1 S σ H E _ fun v H1 e1 r1 => ⟨a, dp_bool r1, by
  cases a with
  | true =>
    show tb σ H1 Q
    exact h2 rfl S σ H1 (E.mono e1) Q fun w H2 e2 r2 => q w H2 (e1.trans e2) r2
  | false => exact q _ H1 e1 (.bl _)⟩
theorem ev_orV {a b : Bool} (h1 : Ed G ta ρ (.bool a)) (h2 : a = false → Ed G tb ρ (.bool b)) : Ed G (tOrV ta tb) ρ (.bool (a || b)) := fun S σ H E Q q => h1 S σ H E _ fun v H1 e1 r1 => ⟨a, dp_bool r1, by
  cases a with
  | true => exact q _ H1 e1 (.bl _)
  | false =>
    show tb σ H1 Q
    exact h2 rfl S σ H1 (E.mono e1) Q fun w H2 e2 r2 => q w H2 (e1.trans e2) r2⟩
theorem ev_notV {a : Bool} (h1 : Ed G ta ρ (.bool a)) : Ed G (tNotV ta) ρ (.bool (!a)) := fun S σ H E Q q => h1 S σ H E _ fun v H1 e1 r1 => ⟨a, dp_bool r1, q _ H1 e1 (.bl _)⟩
theorem ev_if {b : Bool} (h : Et G t ρ b) (h1 : b = true → Ev G ta ρ x) (h2 : b = false → Ev G tb ρ x) : Ev G (tIf t ta tb) ρ x := fun S σ H E Q q => h S σ H E _ fun H1 e1 => by
  cases b with
  | true =>
    show ta σ H1 Q
    exact h1 rfl S σ H1 (E.mono e1) Q fun w H2 e2 r2 => q w H2 (e1.trans e2) r2
  | false =>
    show tb σ H1 Q
    exact h2 rfl S σ H1 (E.mono e1) Q fun w H2 e2 r2 => q w H2 (e1.trans e2) r2

/-! ### arguments, displays, calls -/
theorem ea_nil : Ea G tNil ρ [] := fun S σ H E Q q => q [] H (Ex.refl H) .nil
theorem ea_cons {tr : TA} {es : List Ent} (h : Ev G ta ρ x) (hr : Ea G tr ρ es) : Ea G (tCons ta tr) ρ (x :: es) := fun S σ H E Q q => h S σ H E _ fun v H1 e1 r1 => hr S σ H1 (E.mono e1) _ fun vs H2 e2 r2 =>
  q _ H2 (e1.trans e2) (.cons (rep_mono (vw_mono e2) r1) r2)
theorem ev_tup {tr : TA} {ds : List PyData} (h : Ea G tr ρ (ds.map .dat)) (hl : ds.length ≤ 100000) : Ed G (tTup tr) ρ (.tuple ds) := fun S σ H E Q q => h S σ H E _ fun vs H1 e1 r1 => by
  have ha := dpAll_of_repL r1
  refine ⟨by rw [dpAll_len ha]; exact sz_of hl, fun p hp => q _ _ (e1.trans (Ex.new hp)) (.tup (.inl (.inl (vw_at (E.mono e1).dom hp))) (dpAll_mono (vw_ex_new hp) _ _ ha))⟩
theorem el_lst {tr : TA} {ds : List PyData} (h : Ea G tr ρ (ds.map .dat)) (hl : ds.length ≤ 100000) : El G (tLst tr) ρ ds := fun S σ H E Q q => h S σ H E _ fun vs H1 e1 r1 => by
  have ha := dpAll_of_repL r1
  refine ⟨by rw [dpAll_len ha]; exact sz_of hl, fun p hp => q p vs _ (fresh_back e1 hp) (e1.trans (Ex.new hp)) upd_same (dpAll_mono (vw_more (Ex.new hp) hp) _ _ ha)⟩
/-- the promise of a def that only reads: what it is handed, what it hands back -/
def spE (G : Gd) (n : Nat) (R : List Ent → Ent → Prop) : Sp := fun vs H Q _ => vs.length = n ∧ ∃ S es y, Dom S H ∧ RepL { G with dd := none } (vw S H) vs es ∧ R es y ∧ ∀ v H', Ex H H' → Rep { G with dd := none } (vw S H') v y → Q v H'
def noDie : Ent → Bool
  | .dice => false
  | _ => true
theorem rep_dd {G : Gd} {o : Option Addr} {H : Hp} {v : V} {x : Ent} (h : noDie x = true) (r : Rep G H v x) : Rep { G with dd := o } H v x := by
  cases x with
  | dat d => exact r
  | zone c u m => exact r
  | known m => exact r
  | dice => cases h
theorem rep_du {G : Gd} {o : Option Addr} {H : Hp} {v : V} {x : Ent} (h : noDie x = true) (r : Rep { G with dd := o } H v x) : Rep G H v x := by
  cases x with
  | dat d => exact r
  | zone c u m => exact r
  | known m => exact r
  | dice => cases h
theorem repL_dd {G : Gd} {o : Option Addr} {H : Hp} : ∀ {vs : List V} {es : List Ent}, es.all noDie = true → RepL G H vs es → RepL { G with dd := o } H vs es
  | _, _, _, .nil => .nil
  | _, _, h, .cons h1 h2 => by
    rw [List.all_cons, Bool.and_eq_true] at h
    exact .cons (rep_dd h.1 h1) (repL_dd h.2 h2)
theorem ev_call {n : Nat} {R : List Ent → Ent → Prop} {E0 : XK} {tr : TA} {es : List Ent} (h : Ea G tr ρ es) (hR : R es y) (hn : es.length = n := by rfl) (hd : es.all noDie = true := by rfl) (hy : noDie y = true := by rfl) : Ev G (tCall (spE G n R) [] E0 tr) ρ y := fun S σ H E Q q => h S σ H E _ fun vs H1 e1 r1 => by
  rw [List.append_nil]
  exact ⟨by rw [Paired.length r1]; exact hn, S, es, y, (E.mono e1).dom, repL_dd hd r1, hR, fun v H2 e2 r2 => q v H2 (e1.trans e2) (rep_du hy r2)⟩
/-- a builtin -/
def Rc (G : Gd) (r : List V → Hp → VK → Prop) (es : List Ent) (z : Ent) : Prop := ∀ S H vs, Dom S H → RepL G (vw S H) vs es → ∀ Q : VK, (∀ u H', Ex H H' → Rep G (vw S H') u z → Q u H') → r vs H Q
theorem ev_cb {r : List V → Hp → VK → Prop} {tr : TA} {es : List Ent} (h : Ea G tr ρ es) (hr : Rc G r es x) : Ev G (tCB r tr) ρ x := fun S σ H E Q q => h S σ H E _ fun vs H1 e1 r1 =>
  hr S H1 vs ((E.mono e1).dom) r1 Q fun u H2 e2 r2 => q u H2 (e1.trans e2) r2
theorem repL1 {H : Hp} {vs : List V} (r : RepL G H vs [x]) : ∃ v, vs = [v] ∧ Rep G H v x := by
  cases r with
  | cons r1 r2 => cases r2; exact ⟨_, rfl, r1⟩
theorem repL2 {H : Hp} {vs : List V} (r : RepL G H vs [x, y]) : ∃ v w, vs = [v, w] ∧ Rep G H v x ∧ Rep G H w y := by
  cases r with
  | cons r1 r2 =>
    obtain ⟨w, rfl, r3⟩ := repL1 r2
    exact ⟨_, _, rfl, r1, r3⟩
def rLenS (K : PySem.W.Frag) : List V → Hp → VK → Prop := fun xs H Q => ∃ p ys, xs = [.ref p] ∧ (SqL K H p ys ∨ SqT K H p ys) ∧ Q (.int ys.length) H
theorem rc_lenT {ds : List PyData} : Rc G (rLenS G.K) [.dat (.tuple ds)] (.dat (.int ds.length)) := fun S H vs dm r Q q => by
  obtain ⟨v, rfl, r1⟩ := repL1 r
  obtain ⟨a, xs, rfl, hs, hd⟩ := tup_of r1
  refine ⟨a, xs, rfl, .inr hs, ?_⟩
  rw [dpAll_len hd]
  exact q _ H (Ex.refl H) (.int _)
theorem rc_lenL {ds : List PyData} : Rc G (rLenS G.K) [.dat (.list ds)] (.dat (.int ds.length)) := fun S H vs dm r Q q => by
  obtain ⟨v, rfl, r1⟩ := repL1 r
  obtain ⟨a, xs, rfl, hs, hd⟩ := lst_of r1
  refine ⟨a, xs, rfl, .inl hs, ?_⟩
  rw [dpAll_len hd]
  exact q _ H (Ex.refl H) (.int _)
def rAbs : List V → Hp → VK → Prop := fun xs H Q => ∃ i, xs = [.int i] ∧ Q (.int (if i < 0 then -i else i)) H
theorem rc_abs {i : Int} : Rc G rAbs [.dat (.int i)] (.dat (.int (if i < 0 then -i else i))) := fun S H vs dm r Q q => by
  obtain ⟨v, rfl, r1⟩ := repL1 r
  cases dp_int r1
  exact ⟨i, rfl, q _ H (Ex.refl H) (.int _)⟩
def rMax2 : List V → Hp → VK → Prop := fun xs H Q => ∃ i j, xs = [.int i, .int j] ∧ Q (.int (if j > i then j else i)) H
def rMin2 : List V → Hp → VK → Prop := fun xs H Q => ∃ i j, xs = [.int i, .int j] ∧ Q (.int (if j < i then j else i)) H
theorem rc_max2 {i j : Int} : Rc G rMax2 [.dat (.int i), .dat (.int j)] (.dat (.int (if j > i then j else i))) := fun S H vs dm r Q q => by
  obtain ⟨v, w, rfl, r1, r2⟩ := repL2 r
  cases dp_int r1
  cases dp_int r2
  exact ⟨i, j, rfl, q _ H (Ex.refl H) (.int _)⟩
theorem rc_min2 {i j : Int} : Rc G rMin2 [.dat (.int i), .dat (.int j)] (.dat (.int (if j < i then j else i))) := fun S H vs dm r Q q => by
  obtain ⟨v, w, rfl, r1, r2⟩ := repL2 r
  cases dp_int r1
  cases dp_int r2
  exact ⟨i, j, rfl, q _ H (Ex.refl H) (.int _)⟩
def rInt1 : List V → Hp → VK → Prop := fun xs H Q => (∃ i, xs = [.int i] ∧ Q (.int i) H) ∨ ∃ k, xs = [.bl k] ∧ Q (.int (if k then 1 else 0)) H
theorem rc_int {i : Int} : Rc G rInt1 [.dat (.int i)] (.dat (.int i)) := fun S H vs dm r Q q => by
  obtain ⟨v, rfl, r1⟩ := repL1 r
  cases dp_int r1
  exact .inl ⟨i, rfl, q _ H (Ex.refl H) (.int _)⟩
theorem rc_intB {b : Bool} : Rc G rInt1 [.dat (.bool b)] (.dat (.int (if b then 1 else 0))) := fun S H vs dm r Q q => by
  obtain ⟨v, rfl, r1⟩ := repL1 r
  cases dp_bool r1
  exact .inr ⟨b, rfl, q _ H (Ex.refl H) (.int _)⟩
theorem bls_of {K : PySem.W.Frag} {H : Hp} : ∀ {vs : List V} (bs : List Bool), DpAll K H vs (bs.map PyData.bool) → vs = bs.map V.bl
  | _, [], .nil => rfl
  | _, b :: bs, .cons h1 h2 => by
    rw [dp_bool h1, bls_of bs h2]
    rfl
theorem ints_of {K : PySem.W.Frag} {H : Hp} : ∀ {vs : List V} (is : List Int), DpAll K H vs (is.map PyData.int) → vs = is.map V.int
  | _, [], .nil => rfl
  | _, b :: bs, .cons h1 h2 => by
    rw [dp_int h1, ints_of bs h2]
    rfl
theorem rc_all {bs : List Bool} : Rc G (rAll G.K) [.dat (.list (bs.map .bool))] (.dat (.bool (bs.all id))) := fun S H vs dm r Q q => by
  obtain ⟨v, rfl, r1⟩ := repL1 r
  obtain ⟨a, xs, rfl, hs, hd⟩ := lst_of r1
  exact ⟨a, bs, rfl, by rw [← bls_of bs hd]; exact hs, q _ H (Ex.refl H) (.bl _)⟩
theorem rc_any {bs : List Bool} : Rc G (rAny G.K) [.dat (.list (bs.map .bool))] (.dat (.bool (bs.any id))) := fun S H vs dm r Q q => by
  obtain ⟨v, rfl, r1⟩ := repL1 r
  obtain ⟨a, xs, rfl, hs, hd⟩ := lst_of r1
  exact ⟨a, bs, rfl, by rw [← bls_of bs hd]; exact hs, q _ H (Ex.refl H) (.bl _)⟩
theorem rc_sum {is : List Int} : Rc G (rSum G.K) [.dat (.list (is.map .int))] (.dat (.int is.sum)) := fun S H vs dm r Q q => by
  obtain ⟨v, rfl, r1⟩ := repL1 r
  obtain ⟨a, xs, rfl, hs, hd⟩ := lst_of r1
  exact ⟨a, is, rfl, by rw [← ints_of is hd]; exact hs, q _ H (Ex.refl H) (.int _)⟩
theorem rc_min {is : List Int} (h : is ≠ []) : Rc G (rMin G.K) [.dat (.list (is.map .int))] (.dat (.int (minL is))) := fun S H vs dm r Q q => by
  obtain ⟨v, rfl, r1⟩ := repL1 r
  obtain ⟨a, xs, rfl, hs, hd⟩ := lst_of r1
  refine ⟨a, is, rfl, by rw [← ints_of is hd]; exact hs, List.length_pos_iff.mpr h, fun m hm hl => ?_⟩
  rw [← minL_eq hm hl]
  exact q _ H (Ex.refl H) (.int _)
/-- list(..), tuple(..) -/
theorem el_listOf {ds : List PyData} {tr : TA} (h : Ea G tr ρ [.dat (.tuple ds)] ∨ Ea G tr ρ [.dat (.list ds)]) :
    El G (tCB (fun xs H Q => ∃ p ys, xs = [V.ref p] ∧ (SqL G.K H p ys ∨ SqT G.K H p ys) ∧ ∀ l, H l = none → Q (.ref l) (upd H l (.lst ys))) tr) ρ ds := by
  rcases h with h | h
  · refine fun S σ H E Q q => h S σ H E _ fun vs H1 e1 r1 => ?_
    obtain ⟨v, rfl, r2⟩ := repL1 r1
    obtain ⟨a, xs, rfl, hs, hd⟩ := tup_of r2
    exact ⟨a, xs, rfl, .inr hs, fun l hl => q l xs _ (fresh_back e1 hl) (e1.trans (Ex.new hl)) upd_same (dpAll_mono (vw_more (Ex.new hl) hl) _ _ hd)⟩
  · refine fun S σ H E Q q => h S σ H E _ fun vs H1 e1 r1 => ?_
    obtain ⟨v, rfl, r2⟩ := repL1 r1
    obtain ⟨a, xs, rfl, hs, hd⟩ := lst_of r2
    exact ⟨a, xs, rfl, .inl hs, fun l hl => q l xs _ (fresh_back e1 hl) (e1.trans (Ex.new hl)) upd_same (dpAll_mono (vw_more (Ex.new hl) hl) _ _ hd)⟩
theorem ev_tupleOf {ds : List PyData} (h : Ed G ta ρ (.list ds) ∨ Ed G ta ρ (.tuple ds)) : Ed G (tThen ta (kTup G.K)) ρ (.tuple ds) := by
  rcases h with h | h
  · refine fun S σ H E Q q => h S σ H E _ fun v H1 e1 r1 => ?_
    obtain ⟨a, xs, rfl, hs, hd⟩ := lst_of r1
    exact .inl ⟨a, xs, rfl, hs, fun l hl => q _ _ (e1.trans (Ex.new hl)) (.tup (.inl (.inl (vw_at (E.mono e1).dom hl))) (dpAll_mono (vw_ex_new hl) _ _ hd))⟩
  · refine fun S σ H E Q q => h S σ H E _ fun v H1 e1 r1 => ?_
    obtain ⟨a, xs, rfl, hs, hd⟩ := tup_of r1
    exact .inr ⟨a, xs, rfl, hs, q _ H1 e1 r1⟩
theorem dpAll_rg {K : PySem.W.Frag} {H : Hp} (n : Nat) : DpAll K H (rgV 0 (n : Int)) ((List.range n).map fun (i : Nat) => PyData.int (i : Int)) := by
  unfold rgV
  rw [show ((n : Int) - 0).toNat = n by omega]
  have key : ∀ l : List Nat, DpAll K H (l.map fun (i : Nat) => V.int (0 + (i : Int))) (l.map fun (i : Nat) => PyData.int (i : Int)) := by
    intro l
    induction l with
    | nil => exact .nil
    | cons i l ih =>
      refine .cons ?_ ih
      show Dp K H (V.int (0 + (i : Int))) (PyData.int (i : Int))
      rw [Int.zero_add]
      exact .int _
  exact key _
theorem el_rng {n : Nat} (h : Ed G ta ρ (.int (n : Int))) (hn : n ≤ 100000) : El G (tLstRg (tRg1 ta)) ρ ((List.range n).map fun (i : Nat) => PyData.int (i : Int)) := fun S σ H E Q q => h S σ H E _ fun v H1 e1 r1 =>
  ⟨(n : Int), dp_int r1, by unfold RgOk; omega, fun l hl => q l _ _ (fresh_back e1 hl) (e1.trans (Ex.new hl)) upd_same (dpAll_rg n)⟩
/-- slices of a tuple, tuple + tuple, tuple * int, list + list -/
theorem ev_slT {ds : List PyData} {tl th : TO} {lo hi : Option Int} {cut : List PyData} (h : Ed G ta ρ (.tuple ds)) (hl : ∀ σ H Q, Q lo H → tl σ H Q) (hh : ∀ σ H Q, Q hi H → th σ H Q)
    (hc : (ds.drop (HT.sIx ds.length 0 lo)).take (HT.sIx ds.length ds.length hi - HT.sIx ds.length 0 lo) = cut) : Ed G (tSl (rSlA G.K) ta tl th) ρ (.tuple cut) := fun S σ H E Q q => h S σ H E _ fun v H1 e1 r1 => by
  obtain ⟨a, xs, rfl, hs, hd⟩ := tup_of r1
  refine hl _ _ _ (hh _ _ _ ⟨a, xs, rfl, hs, fun hw => q _ H1 e1 (by rw [← hc]; rw [dpAll_len hd] at hw; rw [hw.1, hw.2]; simpa using r1), fun hw p hp => q _ _ (e1.trans (Ex.new hp)) (.tup (.inl (.inl (vw_at (E.mono e1).dom hp))) (dpAll_mono (vw_ex_new hp) _ _ ?_))⟩)
  · have key : ∀ {vs : List V} {ds : List PyData} (n : Nat), DpAll G.K (vw S H1) vs ds → DpAll G.K (vw S H1) (vs.drop n) (ds.drop n) := by
      intro vs ds n hd
      induction n generalizing vs ds with
      | zero => exact hd
      | succ n ih =>
        cases hd with
        | nil => exact .nil
        | cons _ h2 => exact ih h2
    have key2 : ∀ {vs : List V} {ds : List PyData} (n : Nat), DpAll G.K (vw S H1) vs ds → DpAll G.K (vw S H1) (vs.take n) (ds.take n) := by
      intro vs ds n hd
      induction n generalizing vs ds with
      | zero => exact .nil
      | succ n ih =>
        cases hd with
        | nil => exact .nil
        | cons h1 h2 => exact .cons h1 (ih h2)
    unfold cutV
    rw [← hc, dpAll_len hd]
    exact key2 _ (key _ hd)
theorem ev_catT {ds es : List PyData} (ha : Ed G ta ρ (.tuple ds)) (hb : Ed G tb ρ (.tuple es)) (hz : ds.length + es.length ≤ 100000) : Ed G (tOp (rCatA G.K) ta tb) ρ (.tuple (ds ++ es)) := ev_op ha hb fun S H v w dm h1 h2 Q q => by
  obtain ⟨a, xs, rfl, hs, hd⟩ := tup_of h1
  obtain ⟨b, ys, rfl, ht, he⟩ := tup_of h2
  refine ⟨a, b, xs, ys, rfl, rfl, hs, ht, by rw [dpAll_len hd, dpAll_len he]; exact sz_of hz, fun e => ?_, fun _ e => ?_, fun _ _ p hp => q _ _ (Ex.new hp) (.tup (.inl (.inl (vw_at dm hp))) (dpAll_mono (vw_ex_new hp) _ _ (dpAll_append hd he)))⟩
  · subst e
    cases hd
    exact q _ H (Ex.refl H) h2
  · subst e
    cases he
    exact q _ H (Ex.refl H) (by rw [List.append_nil]; exact h1)
theorem el_cat {ds es : List PyData} (ha : El G ta ρ ds) (hb : El G tb ρ es) (hz : ds.length + es.length ≤ 100000) : El G (tOp rCat ta tb) ρ (ds ++ es) := fun S σ H E Q q =>
  ha S σ H E _ fun p xs H1 n1 e1 h1 d1 => hb S σ H1 (E.mono e1) _ fun p' ys H2 n2 e2 h2 d2 =>
  ⟨p, p', xs, ys, rfl, rfl, e2 _ _ h1, h2, by rw [dpAll_len d1, dpAll_len d2]; exact sz_of hz, fun l hl => q l _ _ (fresh_back (e1.trans e2) hl) ((e1.trans e2).trans (Ex.new hl)) upd_same
    (dpAll_mono (vw_more (Ex.new hl) hl) _ _ (dpAll_append (dpAll_mono (vw_sub2 e2) _ _ d1) (dpAll_mono (vw_sub (fun _ z => List.mem_cons_of_mem _ z)) _ _ d2)))⟩
end
end Ek
end

section
set_option Elab.async false
set_option linter.all false
set_option maxRecDepth 100000
set_option maxHeartbeats 4000000
/-! enumerate(t), t a tuple: our own rule over the library's general draws -/
namespace Enu
open PySem PySem.Spec PyProof.Rows L2
open AutoSeq1 (wpAny_loadPart')

theorem newT (l : Addr) (items : Array Value) (n : Nat) (dct : Option Addr) (sl : Array (Option Value)) :
    Meets (Builtin.«enumerate.__new__» ⟨[.type "enumerate", .ref l], []⟩) (fun _ R s => s.heap.get? l = some { cls := .type "tuple", dict := dct, data := .seq items n, slots := sl } ∧
      R (.ok (.ret (.ref (s.heap.push { cls := .type "tuple_iterator", data := .fields #[.ref l, .int 0 0] }).objs.size)))
        { s with heap := (s.heap.push { cls := .type "tuple_iterator", data := .fields #[.ref l, .int 0 0] }).push { cls := .type "enumerate", data := .fields #[.none, .bool false, .ref s.heap.objs.size, rawInt 0, .none, .none] } }) :=
  .of_wp fun prog w A R s h => by
    obtain ⟨hp, g, d, tk, os⟩ := s; obtain ⟨hl, h⟩ := h
    have hsub := sub_enumerate
    have hL : Heap.IsTuple (Shared.heap ⟨hp, g, d, tk, os⟩) l items := ⟨_, hl, rfl, n, rfl⟩
    wp_walk using wpAny_loadPart' hl
    refine wpAny_stack_any fun st => wpAny_pure ?_
    split
    · rename_i c _ _ _ _ _
      cases (c == Value.type "enumerate")
      · wp_walk using wpAny_loadPart' hl, wpAny_pyIter_tuple hL
        exact ⟨_, rfl, h⟩
      · wp_walk using wpAny_loadPart' hl, wpAny_pyIter_tuple hL
        exact ⟨_, rfl, h⟩
    · wp_walk using wpAny_loadPart' hl, wpAny_pyIter_tuple hL
      exact ⟨_, rfl, h⟩
theorem callT {prog : Program} {w : World} {A : Around} {E : Value → Shared → Prop} {s : Shared} {l : Addr} {items : Array Value} {Q : Value → Shared → Prop} (hL : s.heap.IsTuple l items)
    (h : ∀ h', IsEnum h' (s.heap.objs.size + 1) s.heap.objs.size 0 .none → h'.IsTupleIter s.heap.objs.size l 0 → h'.objs.size = s.heap.objs.size + 2 →
      (∀ b o, s.heap.get? b = some o → h'.get? b = some o) → Q (.ref (s.heap.objs.size + 1)) { s with heap := h' }) :
    wpAny (model prog w) A (call (.type "enumerate") [.ref l]) Q E s := by
  obtain ⟨⟨c, dct, dt, sl⟩, hl, hc, n, hd⟩ := hL
  replace hc : c = .type "tuple" := hc
  replace hd : dt = .seq items n := hd
  subst hc hd
  refine callType_new F.called_enumerate (by decide) (F.typeCall_enumerate_1 _) (F.newCall_enumerate_1 _) (fun obj => F.args_object_init_2 obj _) F.entry_enumerate_new
    (newT l items n dct sl) ⟨hl, ?_⟩
  have hz : (s.heap.push { cls := .type "tuple_iterator", data := .fields #[.ref l, .int 0 0] }).objs.size = s.heap.objs.size + 1 := Heap.size_push ..
  show _ ∧ _
  rw [hz]
  have he : IsEnum ((s.heap.push { cls := .type "tuple_iterator", data := .fields #[.ref l, .int 0 0] }).push
      { cls := .type "enumerate", data := .fields #[.none, .bool false, .ref s.heap.objs.size, rawInt 0, .none, .none] }) (s.heap.objs.size + 1) s.heap.objs.size 0 .none := by
    have := Heap.get?_push_size (s.heap.push { cls := .type "tuple_iterator", data := .fields #[.ref l, .int 0 0] })
      (o := { cls := .type "enumerate", data := .fields #[.none, .bool false, .ref s.heap.objs.size, rawInt 0, .none, .none] }) rfl
    rw [hz] at this; exact this
  refine ⟨⟨_, he, rfl⟩, h _ he ⟨_, Heap.get?_push_of_some _ (Heap.get?_push_size _ rfl), rfl, rfl⟩ (by rw [Heap.size_push, hz]) fun b o x => Heap.get?_push_of_some _ (Heap.get?_push_of_some _ x)⟩

/-- the tuple at a as it stands at each turn, the items in new pairs with their places -/
def IteT (K : PySem.W.Frag) (a : Addr) : It :=
  ⟨fun i H => ∃ (xs : List V) (x : V), SqT K H a xs ∧ xs[i]? = some x, fun i H v H' => ∃ T x, v = .ref T ∧ H T = none ∧ H' = upd H T (.tup [.int (i : Nat), x]) ∧ ∀ xs, SqT K H a xs → xs[i]? = some x, fun i H => ∃ xs : List V, SqT K H a xs ∧ xs.length = i⟩
theorem turnT {P : Program} {w : World} {K : PySem.W.Frag} {elts : List Expr} {kk : Nat} {tpos : Pos} (a e it : Addr) (hae : a ≠ e) (hai : a ≠ it) :
    Turn P w K (.Tuple elts kk tpos) (IteT K a) [e, it] e (fun i h => (∃ old, IsEnum h e it ((i : Nat) : Int) old) ∧ h.IsTupleIter it a i ∧ e ≠ it) where
  mem := by simp
  obj := fun i h st b hb => by
    obtain ⟨⟨old, he⟩, ⟨o, ho, hc, hd⟩, _⟩ := st
    have e' : b = e ∨ b = it := by simpa using hb
    rcases e' with z | z
    · rw [z]; exact ⟨_, he, fun v q => nomatch q⟩
    · rw [z]; exact ⟨o, ho, fun v q => by rw [hd] at q; cases q⟩
  keep := fun i h h' st k => let ⟨⟨old, he⟩, hi, hne⟩ := st; ⟨⟨old, k e (by simp) _ he⟩, hi.at fun o q => k it (by simp) o q, hne⟩
  item := by
    intro X hP hw hK hc i pins s σ H E I hf st hg
    subst hP hw hK
    obtain ⟨⟨old, he⟩, hit, hne⟩ := st
    obtain ⟨xs, x, hq, hx⟩ := hg
    obtain ⟨its, rv, p, hz⟩ := I.tuple hq
    obtain ⟨u, hu, ru⟩ := rv.get hx
    have hel : e < s.heap.objs.size := Heap.lt_size he
    have hil : it < s.heap.objs.size := by obtain ⟨_, q, _⟩ := hit; exact Heap.lt_size q
    have hlt : i < its.toArray.size := by
      have := (List.getElem?_eq_some_iff.mp hu).1
      simpa using this
    have D := Draws.tuple (prog := X.prog) (w := X.w) (A := X.A.in1) (I.ok.hd hc) it a hai its.toArray
    refine wpAny_pyNext_enum_itemC (St := fun i h => h.IsTupleIter it a i ∧ h.IsTuple a its.toArray) D he ⟨hit, p⟩ hlt hne (by simp [hne, hae.symm]) fun y h' tk hP ho hit' hT hsz hk => ?_
    have ey : y = u := by
      have e1 : its.toArray[i]? = some u := by simpa using hu
      have hP : its.toArray[i]? = some y := hP
      rw [e1] at hP
      exact (Option.some.inj hP).symm
    subst ey
    refine ⟨_, rfl, wpAny_letOwnedTupleGo_enum (s := { s with heap := h', toks := tk + 1 }) ho fun h'' he' sb => ?_⟩
    have hT2 : h''.get? s.heap.objs.size = some { cls := .type "tuple", data := .seq #[.int i tk, y] } := (sb.2 _ (Nat.ne_of_gt hel)).trans hT
    have new : ObjOk X.prog X.w (upd H s.heap.objs.size (.tup [.int (i : Nat), x])) h'' s.heap.objs.size (.tup [.int (i : Nat), x]) :=
      ⟨by show 2 ≤ sizeLine; decide, [.int i tk, y], .cons ⟨_, rfl⟩ (.cons ru .nil), ⟨_, hT2, rfl, _, rfl⟩⟩
    have I1 : Inv X pins σ (upd H s.heap.objs.size (.tup [.int (i : Nat), x])) { s with heap := h'', toks := tk + 1 } :=
      I.turnedNew (ch := [e, it]) (fun b ob hb q => (sb.2 b (fun z => hb (by simp [z]))).trans (hk b ob (fun z => hb (by simp [z])) (fun z => hb (by simp [z])) q)) hf (Nat.le_refl _) new
    refine ⟨.ref s.heap.objs.size, _, I1, rfl, ⟨_, x, rfl, I.hok.fresh (Nat.le_refl _), rfl, fun ys hy => by rw [I.tuple_inj hy hq]; exact hx⟩, ⟨⟨y, ?_⟩, hit'.1.at fun o q => (sb.2 it (Ne.symm hne)).trans q, hne⟩, fun b hb => ?_⟩
    · have e1 : ((i + 1 : Nat) : Int) = (i : Int) + 1 := by omega
      rw [e1]; exact he'
    · have hb' : b < s.heap.objs.size := by
        have e' : b = e ∨ b = it := by simpa using hb
        rcases e' with z | z
        · rw [z]; exact hel
        · rw [z]; exact hil
      rw [upd_ne (Nat.ne_of_lt hb')]
      exact (hf b hb).1
  done := by
    intro X hP hw hK hc i pins s σ H E I hf st hg
    subst hP hw hK
    obtain ⟨⟨old, he⟩, hit, hne⟩ := st
    obtain ⟨xs, hq, hx⟩ := hg
    obtain ⟨its, rv, p, hz⟩ := I.tuple hq
    obtain ⟨f0, f1, f2, f3, f4, f5⟩ := hf it (by simp)
    have hl := rv.length
    have D := Draws.tuple (prog := X.prog) (w := X.w) (A := X.A.in1) (I.ok.hd hc) it a hai its.toArray
    have en : its.toArray.size = i := by rw [List.size_toArray, ← hl]; exact hx
    refine wpAny_pyNext_enum_endD (St := fun i h => h.IsTupleIter it a i ∧ h.IsTuple a its.toArray) D he ⟨by rw [en]; exact hit, p⟩ fun h' eb => ⟨rfl, I.turned (t' := s.toks) (fun b o hb q => eb b o hb q) f0 f1 f3 f4 f5⟩
  self := fun A i s Q E st h => let ⟨⟨_, he⟩, _⟩ := st; wpAny_pyIter_enum he h
def iEnumT (K : PySem.W.Frag) (ta : TA) : TI := fun σ H R => ta σ H fun vs H1 => ∃ a xs, vs = [.ref a] ∧ SqT K H1 a xs ∧ R (IteT K a) H1
theorem pi_enumT {X : Cx} {e : Expr} {ta : TA} {p pos tpos : Pos} {elts : List Expr} {kk : Nat} (hg : Gl X "enumerate") (hm : X.mg "enumerate" = none) (ha : PA X [e] ta) (hs : starEach [e] X.env = [(false, eval e X.env)] := by rfl) :
    PI X (.Tuple elts kk tpos) (.Call (.Name "enumerate" p) [e] [] pos) (iEnumT X.K ta) := by
  refine ⟨fun pins s σ H R I h => ?_⟩
  refine Call_ (ld_blt I hg hm boot_enumerate (PyProof.Rows.callWith_type1 (thn (ha.run pos pins s σ H _ I h) fun us s1 ⟨vs, H1, I1, r1, q1⟩ => ?_) hs rfl))
  obtain ⟨a, xs, ex, hq, q⟩ := q1
  subst ex
  cases r1 with
  | cons r rr =>
    cases rr
    cases r
    obtain ⟨its, rv, p', hz⟩ := I1.tuple hq
    obtain ⟨oa, ha, _⟩ := id p'
    have hal := Heap.lt_size ha
    refine callT (show s1.heap.IsTuple a its.toArray from p') fun h' he hit hsz hk => wpAny_pyIter_enum he ?_
    have I2 : Inv X pins σ H1 { s1 with heap := h' } := I1.kept (t' := s1.toks) hk
    refine ⟨s1.heap.objs.size + 1, [s1.heap.objs.size + 1, s1.heap.objs.size], _, _, H1, rfl, I2, turnT a (s1.heap.objs.size + 1) s1.heap.objs.size (Nat.ne_of_lt (Nat.lt_succ_of_lt hal)) (Nat.ne_of_lt hal), ⟨⟨.none, he⟩, hit, Nat.succ_ne_self _⟩, fun b hb => ?_, q⟩
    have e' : b = s1.heap.objs.size + 1 ∨ b = s1.heap.objs.size := by simpa using hb
    have hle : s1.heap.objs.size ≤ b := by
      rcases e' with z | z
      · rw [z]; exact Nat.le_add_right _ _
      · rw [z]; exact Nat.le_refl _
    exact I1.fpOk hle (I1.hok.fresh hle)
theorem walk_enumT {K : PySem.W.Frag} {a : Addr} {xs : List V} : Walk (IteT K a) xs.length (fun H => SqT K H a xs) (YPair (fun i => some (.int (i : Nat))) (fun i => xs[i]?)) := by
  refine ⟨fun i _ hi q => ⟨xs, xs[i], q, by simp [hi]⟩, fun _ q => ⟨xs, q, rfl⟩, fun i H v H' _ q y => ?_⟩
  obtain ⟨T, x, h1, h2, h3, h4⟩ := y
  exact ⟨T, .int (i : Nat), x, h1, h2, h3, rfl, h4 xs q⟩
theorem walk_zipT {K : PySem.W.Frag} {a b : Addr} {xs ys : List V} {n : Nat} (hn : n = min xs.length ys.length) : Walk (RZ.ItzT K a b) n (fun H => SqT K H a xs ∧ SqT K H b ys) (YPair (fun i => xs[i]?) (fun i => ys[i]?)) := by
  subst hn
  refine ⟨fun i _ hi q => ?_, fun _ q => ⟨xs, ys, q.1, q.2, by omega⟩, fun i H v H' _ q y => ?_⟩
  · have h1 : i < xs.length := by omega
    have h2 : i < ys.length := by omega
    exact ⟨xs, ys, xs[i], ys[i], q.1, q.2, by simp [h1], by simp [h2]⟩
  · obtain ⟨T, x, z, h1, h2, h3, h4, h5⟩ := y
    exact ⟨T, x, z, h1, h2, h3, h4 xs q.1, h5 ys q.2⟩
end Enu
end

section
set_option Elab.async false
set_option linter.all false
set_option maxRecDepth 100000
set_option maxHeartbeats 4000000
namespace Ek
open PySem PySem.Spec PyProof.Rows L2 K18
open Evl (Ex ex_rd ex_l ex_t fresh_back sz_of sz_lt)

/-! ## slots forgotten -/
theorem wipe_get (σ : L2.St) : ∀ (vs : List Nat) (i : Nat), (L2.wipe σ vs)[i]? = if i ∈ vs ∧ i < σ.length then some none else σ[i]?
  | [], i => by simp [L2.wipe]
  | v :: vs, i => by
    unfold L2.wipe
    by_cases e : v = i
    · subst e
      by_cases hl : v < σ.length
      · rw [List.getElem?_set_self (by rw [wipe_length]; exact hl), if_pos ⟨by simp, hl⟩]
      · rw [List.getElem?_eq_none (by rw [List.length_set, wipe_length]; omega), if_neg (fun q => hl q.2), List.getElem?_eq_none (by omega)]
    · rw [List.getElem?_set_ne e, wipe_get σ vs i]
      have : (i ∈ v :: vs) ↔ i ∈ vs := by simp [Ne.symm e]
      simp only [this]
theorem wipe_same {σ τ : L2.St} {vs : List Nat} (hl : σ.length = τ.length) (h : ∀ i, i ∉ vs → σ[i]? = τ[i]?) : L2.wipe σ vs = L2.wipe τ vs := by
  refine List.ext_getElem? fun i => ?_
  rw [wipe_get, wipe_get, hl]
  by_cases q : i ∈ vs
  · by_cases q2 : i < τ.length
    · rw [if_pos ⟨q, q2⟩, if_pos ⟨q, q2⟩]
    · rw [if_neg (fun z => q2 z.2), if_neg (fun z => q2 z.2), List.getElem?_eq_none (by omega), List.getElem?_eq_none (by omega)]
  · rw [if_neg (fun z => q z.1), if_neg (fun z => q z.1)]
    exact h i q
theorem wipe_wipe (σ : L2.St) (vs : List Nat) : L2.wipe (L2.wipe σ vs) vs = L2.wipe σ vs := wipe_same (wipe_length _ _) fun i h => by rw [wipe_get, if_neg fun z => h z.1]

/-! ## targets -/
section
variable (G : Gd)
/-- target g, handed x in ρ, leaves ρ' (the slots js alone change) -/
def Tg (g : TG) (js : List Nat) (ρ : Rho) (x : Ent) (ρ' : Rho) : Prop := ∀ S v σ H, Env G S σ H ρ → Rep G (vw S H) v x → ∀ Q : L2.St → Hp → Prop,
  (∀ σ', Env G S σ' H ρ' → σ'.length = σ.length → (∀ i, i ∉ js → σ'[i]? = σ[i]?) → Q σ' H) → g v σ H Q
def Tgs (t : TGs) (js : List Nat) (ρ : Rho) (xs : List PyData) (ρ' : Rho) : Prop := ∀ S vs σ H, Env G S σ H ρ → DpAll G.K (vw S H) vs xs → ∀ Q : L2.St → Hp → Prop,
  (∀ σ', Env G S σ' H ρ' → σ'.length = σ.length → (∀ i, i ∉ js → σ'[i]? = σ[i]?) → Q σ' H) → t vs σ H Q
/-- what is walked: the entries xs, one after another; V0 is all that they lean on -/
def Wk (J : It) (V0 : Hp) (xs : List Ent) : Prop := ∃ (Gu : Hp → Prop) (Y : Nat → Hp → V → Hp → Prop), Walk J xs.length Gu Y ∧ (∀ H1, Ex V0 H1 → Gu H1) ∧
  ∀ i H1 v H2, i < xs.length → Ex V0 H1 → Y i H1 v H2 → Ex H1 H2 ∧ (∀ a o, H2 a = some o → H1 a = none ∨ H1 a = some o) ∧ ∃ e, xs[i]? = some e ∧ ∀ S1, Dom S1 H1 → Ex V0 (vw S1 H1) → Rep G (vw S1 H2) v e
def Sr (wi : TI) (ρ : Rho) (xs : List Ent) : Prop := ∀ S σ H, Env G S σ H ρ → ∀ R : It → Hp → Prop, (∀ J H', Ex H H' → Wk G J (vw S H') xs → R J H') → wi σ H R
end
section
variable {G : Gd} {ρ ρ1 ρ2 : Rho} {ta tb tl te : TE} {x y : Ent} {d : PyData} {g g1 g2 : TG} {js js1 js2 : List Nat}
theorem tg_name {j : Nat} : Tg G (gName j) [j] ρ x (ρ.set j (some x)) := fun S v σ H E r Q q =>
  q _ (E.set j r) (by rw [List.length_set]) fun i hi => by rw [List.getElem?_set_ne (fun e => hi (by simp [e]))]
theorem tgs_nil : Tgs G gNil [] ρ [] ρ := fun S vs σ H E r Q q => by
  cases r
  exact ⟨rfl, q σ E rfl fun _ _ => rfl⟩
theorem tgs_cons {t : TGs} {xs : List PyData} (h1 : Tg G g js1 ρ (.dat d) ρ1) (h2 : Tgs G t js2 ρ1 xs ρ2) : Tgs G (gCons g t) (js1 ++ js2) ρ (d :: xs) ρ2 := fun S vs σ H E r Q q => by
  cases r with
  | cons r1 r2 =>
    refine ⟨_, _, rfl, h1 S _ σ H E r1 _ fun σ1 E1 l1 k1 => h2 S _ σ1 H E1 r2 Q fun σ2 E2 l2 k2 => q σ2 E2 (l2.trans l1) fun i hi => ?_⟩
    rw [List.mem_append, not_or] at hi
    rw [k2 i hi.2, k1 i hi.1]
theorem tg_tup {n : Nat} {t : TGs} {xs : List PyData} (h : Tgs G t js ρ xs ρ1) (hn : xs.length = n := by rfl) : Tg G (gTup G.K n t) js ρ (.dat (.tuple xs)) ρ1 := fun S v σ H E r Q q => by
  obtain ⟨a, ys, rfl, hs, hd⟩ := tup_of r
  exact ⟨a, ys, rfl, hs, by rw [dpAll_len hd]; exact hn, h S ys σ H E hd Q q⟩
theorem tg_lst {n : Nat} {t : TGs} {xs : List PyData} (h : Tgs G t js ρ xs ρ1) (hn : xs.length = n := by rfl) : Tg G (gUnl G.K n t) js ρ (.dat (.list xs)) ρ1 := fun S v σ H E r Q q => by
  obtain ⟨a, ys, rfl, hs, hd⟩ := lst_of r
  exact ⟨a, ys, rfl, hs, by rw [dpAll_len hd]; exact hn, h S ys σ H E hd Q q⟩
theorem tg_2 {i j : Nat} {d e : PyData} : Tg G (gTup G.K 2 (gCons (gName i) (gCons (gName j) gNil))) [i, j] ρ (.dat (.tuple [d, e])) ((ρ.set i (some (.dat d))).set j (some (.dat e))) :=
  tg_tup (tgs_cons (js1 := [i]) (js2 := [j]) tg_name (tgs_cons (js1 := [j]) (js2 := []) tg_name tgs_nil))

/-! ## sources -/
theorem wk_seqT {V0 : Hp} {a : Addr} {vs : List V} {ds : List PyData} (h : SqT G.K V0 a vs) (hd : DpAll G.K V0 vs ds) : Wk G (Itt G.K a) V0 (ds.map .dat) := by
  have hl := dpAll_len hd
  refine ⟨_, _, (show Walk (Itt G.K a) (ds.map Ent.dat).length _ _ by rw [List.length_map, ← hl]; exact walk_tup), fun H1 e => ex_t e h, fun i H1 v H2 hi e hy => ?_⟩
  obtain ⟨rfl, hv⟩ := hy
  obtain ⟨d, h1, h2⟩ := dpAll_get i hd hv
  exact ⟨Ex.refl _, fun _ _ z => .inr z, .dat d, by rw [List.getElem?_map, h1]; rfl, fun S1 _ e2 => dp_mono e2 _ _ h2⟩
theorem wk_seqL {V0 : Hp} {a : Addr} {vs : List V} {ds : List PyData} (h : SqL G.K V0 a vs) (hd : DpAll G.K V0 vs ds) : Wk G (Itl G.K a) V0 (ds.map .dat) := by
  have hl := dpAll_len hd
  refine ⟨_, _, (show Walk (Itl G.K a) (ds.map Ent.dat).length _ _ by rw [List.length_map, ← hl]; exact walk_list), fun H1 e => ex_l e h, fun i H1 v H2 hi e hy => ?_⟩
  obtain ⟨rfl, hv⟩ := hy
  obtain ⟨d, h1, h2⟩ := dpAll_get i hd hv
  exact ⟨Ex.refl _, fun _ _ z => .inr z, .dat d, by rw [List.getElem?_map, h1]; rfl, fun S1 _ e2 => dp_mono e2 _ _ h2⟩
theorem sr_tup {ds : List PyData} (h : Ed G tl ρ (.tuple ds)) : Sr G (iTup G.K tl) ρ (ds.map .dat) := fun S σ H E R q => h S σ H E _ fun v H1 e1 r1 => by
  obtain ⟨a, xs, rfl, hs, hd⟩ := dp_tup r1
  exact ⟨a, rfl, ⟨xs, ex_t vw_le hs⟩, q _ _ e1 (wk_seqT hs hd)⟩
theorem sr_lst {ds : List PyData} (h : Ed G tl ρ (.list ds)) : Sr G (iList G.K tl) ρ (ds.map .dat) := fun S σ H E R q => h S σ H E _ fun v H1 e1 r1 => by
  obtain ⟨a, xs, rfl, hs, hd⟩ := dp_lst r1
  exact ⟨a, rfl, ⟨xs, ex_l vw_le hs⟩, q _ _ e1 (wk_seqL hs hd)⟩
theorem wk_rng {V0 : Hp} {n : Nat} : Wk G (Itr 0 n) V0 ((List.range n).map fun (i : Nat) => .dat (.int (i : Int))) := by
  refine ⟨_, _, (show Walk (Itr 0 n) ((List.range n).map fun (i : Nat) => Ent.dat (.int (i : Int))).length _ _ by rw [List.length_map, List.length_range]; exact walk_range), fun H1 e => trivial, fun i H1 v H2 hi e hy => ?_⟩
  obtain ⟨rfl, rfl⟩ := hy
  rw [List.length_map, List.length_range] at hi
  refine ⟨Ex.refl _, fun _ _ z => .inr z, .dat (.int (i : Int)), by rw [List.getElem?_map, List.getElem?_range hi]; rfl, fun S1 _ e2 => ?_⟩
  show Dp G.K (vw S1 H2) (V.int (0 + (i : Int))) (PyData.int (i : Int))
  rw [Int.zero_add]
  exact .int _
theorem sr_rng {tr : TA} {n : Nat} (h : Ea G tr ρ [.dat (.int (n : Int))]) (hn : n ≤ 100000) : Sr G (iRng1 tr) ρ ((List.range n).map fun (i : Nat) => .dat (.int (i : Int))) := fun S σ H E R q => h S σ H E _ fun vs H1 e1 r1 => by
  obtain ⟨v, rfl, r2⟩ := repL1 r1
  cases dp_int r2
  exact ⟨n, rfl, by omega, by omega, q _ _ e1 (by rw [Int.toNat_natCast]; exact wk_rng)⟩
theorem wk_pairs {J : It} {V0 : Hp} {n : Nat} {Gu : Hp → Prop} {f1 f2 : Nat → Option V} {xs : List PyData} (w : Walk J n Gu (YPair f1 f2)) (hg : ∀ H1, Ex V0 H1 → Gu H1) (hn : xs.length = n)
    (hx : ∀ i x y, i < n → f1 i = some x → f2 i = some y → ∃ d e, xs[i]? = some (.tuple [d, e]) ∧ Dp G.K V0 x d ∧ Dp G.K V0 y e) : Wk G J V0 (xs.map .dat) := by
  refine ⟨Gu, _, (by rw [List.length_map, hn]; exact w), hg, fun i H1 v H2 hi e hy => ?_⟩
  rw [List.length_map, hn] at hi
  obtain ⟨T, x, y, rfl, hT, rfl, h1, h2⟩ := hy
  obtain ⟨d, k, e1, e2, e3⟩ := hx i x y hi h1 h2
  refine ⟨Ex.new hT, fun a o z => ?_, .dat (.tuple [d, k]), by rw [List.getElem?_map, e1]; rfl, fun S1 dm ev => ?_⟩
  · by_cases q : a = T
    · subst q
      exact .inl hT
    · rw [upd_ne q] at z
      exact .inr z
  · have up : Ex V0 (vw S1 (upd H1 T (.tup [x, y]))) := ev.trans (vw_ex_new hT)
    exact .tup (.inl (.inl (vw_at dm hT))) (.cons (dp_mono up _ _ e2) (.cons (dp_mono up _ _ e3) .nil))
theorem sr_zip {tr : TA} {ds es : List PyData} (h : Ea G tr ρ [.dat (.tuple ds), .dat (.tuple es)]) : Sr G (RZ.iZipA G.K tr) ρ (((ds.zip es).map fun p => PyData.tuple [p.1, p.2]).map .dat) := fun S σ H E R q => h S σ H E _ fun vs H1 e1 r1 => by
  obtain ⟨v, w, rfl, r2, r3⟩ := repL2 r1
  obtain ⟨a, xs, rfl, hs, hd⟩ := dp_tup r2
  obtain ⟨b, ys, rfl, ht, he⟩ := dp_tup r3
  refine ⟨a, b, xs, ys, rfl, .inr ⟨ex_t vw_le hs, ex_t vw_le ht, q _ _ e1 ?_⟩⟩
  refine wk_pairs (n := min xs.length ys.length) (Enu.walk_zipT rfl) (fun H2 e2 => ⟨ex_t e2 hs, ex_t e2 ht⟩) (by rw [List.length_map, List.length_zip, dpAll_len hd, dpAll_len he]) fun i x y hi hx hy => ?_
  obtain ⟨d, q1, q2⟩ := dpAll_get i hd hx
  obtain ⟨e, q3, q4⟩ := dpAll_get i he hy
  refine ⟨d, e, ?_, q2, q4⟩
  rw [List.getElem?_map, (List.getElem?_zip_eq_some (z := (d, e))).mpr ⟨q1, q3⟩]
  rfl
theorem sr_enum {tr : TA} {ds : List PyData} (h : Ea G tr ρ [.dat (.tuple ds)]) : Sr G (Enu.iEnumT G.K tr) ρ ((ds.zipIdx.map fun p => PyData.tuple [.int ((p.2 : Nat) : Int), p.1]).map .dat) := fun S σ H E R q => h S σ H E _ fun vs H1 e1 r1 => by
  obtain ⟨v, rfl, r2⟩ := repL1 r1
  obtain ⟨a, xs, rfl, hs, hd⟩ := dp_tup r2
  refine ⟨a, xs, rfl, ex_t vw_le hs, q _ _ e1 ?_⟩
  refine wk_pairs (n := xs.length) Enu.walk_enumT (fun H2 e2 => ex_t e2 hs) (by rw [List.length_map, List.length_zipIdx, dpAll_len hd]) fun i x y hi hx hy => ?_
  cases hx
  obtain ⟨d, q1, q2⟩ := dpAll_get i hd hy
  refine ⟨.int (i : Int), d, ?_, .int _, q2⟩
  rw [List.getElem?_map, List.getElem?_zipIdx, q1]
  simp
end

/-! ## comprehensions -/
section
variable {G : Gd} {ρ : Rho} {wi : TI} {g : TG} {tt : TT} {te : TE} {vs js : List Nat} {xs : List Ent}
/-- the elements made so far -/
def madeUpto (p : Nat → Bool) (f : Nat → PyData) (n : Nat) : List PyData := ((List.range n).filter p).map f
theorem made_yes {p : Nat → Bool} {f : Nat → PyData} {n : Nat} (h : p n = true) : madeUpto p f (n + 1) = madeUpto p f n ++ [f n] := by
  unfold madeUpto
  rw [List.range_succ, List.filter_append, List.map_append, List.filter_cons, if_pos h]
  rfl
theorem made_no {p : Nat → Bool} {f : Nat → PyData} {n : Nat} (h : p n = false) : madeUpto p f (n + 1) = madeUpto p f n := by
  unfold madeUpto
  rw [List.range_succ, List.filter_append, List.map_append, List.filter_cons, if_neg (by rw [h]; exact Bool.false_ne_true)]
  simp
theorem made_len (p : Nat → Bool) (f : Nat → PyData) (n : Nat) : (madeUpto p f n).length ≤ n := by
  unfold madeUpto
  rw [List.length_map]
  have := List.length_filter_le p (List.range n)
  rw [List.length_range] at this
  exact this
theorem el_lcG (p : Nat → Bool) (f : Nat → PyData) (hs : Sr G wi ρ xs) (hz : xs.length ≤ 100000) (hj : ∀ j ∈ js, j ∈ vs)
    (he : ∀ i e, xs[i]? = some e → ∃ ρ1, Tg G g js (wipeR ρ vs) e ρ1 ∧ Et G tt ρ1 (p i) ∧ (p i = true → Ed G te ρ1 (f i))) : El G (tLc wi g tt te vs) ρ (madeUpto p f xs.length) := fun S σ H E Q q => hs S σ H E _ fun J H1 e1 ⟨Gu, Y, w, hG, hY⟩ => fun Dl hD => by
  have E1 := E.mono e1
  have dm1 := E1.dom
  have nD : Dl ∉ S := dm1.new hD
  -- what holds between two turns
  have view : ∀ {H2 : Hp}, Ex H1 H2 → Ex (vw S H1) (vw (Dl :: S) H2) := fun e => vw_more e hD
  refine lc_it w (fun i H2 => Ex H1 H2 ∧ ∃ acc, H2 Dl = some (.lst acc) ∧ DpAll G.K (vw (Dl :: S) H2) acc (madeUpto p f i)) ⟨Ex.new hD, [], upd_same, .nil⟩ (fun i H2 _ h => hG H2 ((view h.1).trans vw_le)) ?_ ?_
  · rintro i v H2 H3 hi ⟨e2, acc, hD2, hacc⟩ hy
    have dm2 : Dom (Dl :: S) H2 := fun a ha => by
      rcases List.mem_cons.mp ha with rfl | ha
      · rw [hD2]
        exact fun z => by cases z
      · exact dm1.mono e2 a ha
    obtain ⟨e3, bk3, x, hx, rep⟩ := hY i H2 v H3 hi ((view e2).trans vw_le) hy
    have r := rep (Dl :: S) dm2 (view e2)
    have E2 : Env G (Dl :: S) (L2.wipe σ vs) H3 (wipeR ρ vs) := (E1.wipe vs).view (dm2.mono e3) (view (e2.trans e3))
    obtain ⟨ρ1, h1, h2, h3⟩ := he i x hx
    refine h1 (Dl :: S) v _ H3 E2 r _ fun σ2 E3 l2 k2 => ⟨?_, ?_⟩
    · rw [← wipe_wipe σ vs]
      exact wipe_same l2 fun i hi => k2 i fun z => hi (hj i z)
    · refine h2 (Dl :: S) σ2 H3 E3 _ fun H4 e4 => ?_
      cases hp : p i with
      | false =>
        show Ex H1 H4 ∧ _
        refine ⟨(e2.trans e3).trans e4, acc, (e3.trans e4) _ _ hD2, ?_⟩
        rw [made_no hp]
        exact dpAll_mono (vw_mono (e3.trans e4)) _ _ hacc
      | true =>
        show te σ2 H4 _
        refine h3 hp (Dl :: S) σ2 H4 (E3.mono e4) _ fun y H5 e5 r5 => ?_
        have eD : H5 Dl = some (.lst acc) := ((e3.trans e4).trans e5) _ _ hD2
        refine ⟨acc, eD, ?_, ?_, acc ++ [y], upd_same, ?_⟩
        · rw [dpAll_len hacc]
          have := made_len p f i
          exact sz_lt (by omega)
        · exact Evl.Ex.mut (((e2.trans e3).trans e4).trans e5) hD
        · rw [made_yes hp, vw_hid List.mem_cons_self]
          exact dpAll_append (dpAll_mono (vw_mono ((e3.trans e4).trans e5)) _ _ hacc) (.cons r5 .nil)
  · rintro H2 ⟨e2, acc, hD2, hacc⟩
    exact q Dl acc H2 (fresh_back e1 hD) (e1.trans e2) hD2 hacc
theorem made_map {α : Type} (l : List α) (p : α → Bool) (f : α → PyData) (d : α) : madeUpto (fun i => p (l.getD i d)) (fun i => f (l.getD i d)) l.length = (l.filter p).map f := by
  have key : ∀ n, n ≤ l.length → madeUpto (fun i => p (l.getD i d)) (fun i => f (l.getD i d)) n = ((l.take n).filter p).map f := by
    intro n
    induction n with
    | zero => intro _; rfl
    | succ n ih =>
      intro hn
      have e : l.take (n + 1) = l.take n ++ [l.getD n d] := by
        rw [List.take_add_one, List.getElem?_eq_getElem (by omega), List.getD_eq_getElem?_getD, List.getElem?_eq_getElem (by omega)]
        rfl
      rw [e, List.filter_append, List.map_append, ← ih (by omega)]
      cases hp : p (l.getD n d) with
      | true => rw [made_yes (p := fun i => p (l.getD i d)) hp, List.filter_cons, if_pos hp]; rfl
      | false => rw [made_no (p := fun i => p (l.getD i d)) hp, List.filter_cons, if_neg (by rw [hp]; exact Bool.false_ne_true)]; simp
  have := key l.length (Nat.le_refl _)
  rw [List.take_length] at this
  exact this
/-- [f a for a in l if p a] -/
theorem el_lcF {α : Type} {l : List α} {enc : α → Ent} (p : α → Bool) (f : α → PyData) (hs : Sr G wi ρ (l.map enc)) (hz : l.length ≤ 100000) (hj : ∀ j ∈ js, j ∈ vs)
    (he : ∀ a, a ∈ l → ∃ ρ1, Tg G g js (wipeR ρ vs) (enc a) ρ1 ∧ Et G tt ρ1 (p a) ∧ (p a = true → Ed G te ρ1 (f a))) : El G (tLc wi g tt te vs) ρ ((l.filter p).map f) := by
  cases l with
  | nil =>
    have h := el_lcG (tt := tt) (te := te) (g := g) (js := js) (fun _ => true) (fun _ => PyData.none) hs (by simp) hj (fun i e h => by simp at h)
    exact h
  | cons d r =>
    have h := el_lcG (tt := tt) (te := te) (g := g) (js := js) (fun i => p ((d :: r).getD i d)) (fun i => f ((d :: r).getD i d)) hs (by rw [List.length_map]; exact hz) hj (fun i e h => by
      rw [List.getElem?_map] at h
      cases hi : (d :: r)[i]? with
      | none => rw [hi] at h; cases h
      | some a =>
        rw [hi] at h
        cases h
        have ea : (d :: r).getD i d = a := by rw [List.getD_eq_getElem?_getD, hi]; rfl
        rw [ea]
        exact he a (List.mem_of_getElem? hi))
    rw [List.length_map, made_map] at h
    exact h
theorem et_yes : Et G tYes ρ true := fun S σ H E Q q => q H (Ex.refl H)
/-- [f a for a in l] -/
theorem el_lc {α : Type} {l : List α} {enc : α → Ent} (f : α → PyData) (hs : Sr G wi ρ (l.map enc)) (hz : l.length ≤ 100000) (hj : ∀ j ∈ js, j ∈ vs)
    (he : ∀ a, a ∈ l → ∃ ρ1, Tg G g js (wipeR ρ vs) (enc a) ρ1 ∧ Ed G te ρ1 (f a)) : El G (tLc wi g tYes te vs) ρ (l.map f) := by
  have h := el_lcF (tt := tYes) (fun _ => true) f hs hz hj fun a ha => let ⟨ρ1, h1, h2⟩ := he a ha; ⟨ρ1, h1, et_yes, fun _ => h2⟩
  rw [List.filter_eq_self.mpr (fun _ _ => rfl)] at h
  exact h
end
end Ek
end

section
set_option Elab.async false
set_option linter.all false
set_option maxRecDepth 100000
set_option maxHeartbeats 4000000
namespace Ek
open PySem PySem.Spec PyProof.Rows L2 K18
open Evl (Ex ex_rd ex_l ex_t fresh_back sz_of sz_lt)

/-! ## [e for a in l for b in m if t] -/
section
variable {G : Gd} {ρ : Rho} {wi wi1 : TI} {g g1 : TG} {tt1 : TT} {te : TE} {vs vs1 js js1 : List Nat}
theorem inner_it {J : It} {n : Nat} {Gu : Hp → Prop} {Y : Nat → Hp → V → Hp → Prop} (w : Walk J n Gu Y) {g : TG} {tt : TT} {te : TE} {vs : List Nat} {σ : L2.St} {D : Addr} {H : Hp} {Nx : Hp → Prop} (Pv : Nat → Hp → Prop) (h0 : Pv 0 H) (hG : ∀ i H, i ≤ n → Pv i H → Gu H)
    (hs : ∀ i x H H', i < n → Pv i H → Y i H x H' → g x (L2.wipe σ vs) H' fun σ2 H2 => L2.wipe σ2 vs = L2.wipe σ vs ∧ tt σ2 H2 fun b H3 =>
      if b = true then te σ2 H3 fun y H4 => ∃ acc, H4 D = some (.lst acc) ∧ acc.length < sizeLine ∧ Pv (i + 1) (upd H4 D (.lst (acc ++ [y]))) else Pv (i + 1) H3) (hd : ∀ H, Pv n H → Nx H) :
    ∃ W : Nat → Nat → Hp → Prop, (∃ m, W 0 m H) ∧ ∀ i m H, W i m H →
      (J.stop i H ∧ Nx H) ∨ (J.go i H ∧ ∃ Nx1 : Hp → Prop, (∀ H', Nx1 H' → ∃ m', m' < m ∧ W (i + 1) m' H') ∧ ∀ x H', J.yld i H x H' → g x (L2.wipe σ vs) H' fun σ2 H2 => L2.wipe σ2 vs = L2.wipe σ vs ∧ tt σ2 H2 fun b H3 =>
        if b = true then te σ2 H3 fun y H4 => ∃ acc, H4 D = some (.lst acc) ∧ acc.length < sizeLine ∧ Nx1 (upd H4 D (.lst (acc ++ [y]))) else Nx1 H3) := by
  refine ⟨fun i m H => m = n - i ∧ i ≤ n ∧ Pv i H, ⟨n, by simp, Nat.zero_le _, h0⟩, ?_⟩
  rintro i m H ⟨rfl, hi, p⟩
  have q := hG i H hi p
  by_cases hlt : i < n
  · exact .inr ⟨w.goes i H hlt q, Pv (i + 1), fun H' p' => ⟨n - (i + 1), by omega, rfl, hlt, p'⟩, fun x H' y => hs i x H H' hlt p (w.yields i H x H' hlt q y)⟩
  · have e : i = n := by omega
    subst e
    exact .inl ⟨w.stops H q, hd H p⟩
theorem el_lc2 {α β : Type} {l : List α} {m : List β} {enc : α → Ent} {enc1 : β → Ent} (p : α → β → Bool) (f : α → β → PyData) (hs : Sr G wi ρ (l.map enc)) (hz : l.length * m.length ≤ 100000) (hj : ∀ j ∈ js, j ∈ vs) (hj1 : ∀ j ∈ js1, j ∈ vs1)
    (he : ∀ a, a ∈ l → ∃ ρ1, Tg G g js (wipeR ρ vs) (enc a) ρ1 ∧ Sr G wi1 ρ1 (m.map enc1) ∧ ∀ b, b ∈ m → ∃ ρ2, Tg G g1 js1 (wipeR ρ1 vs1) (enc1 b) ρ2 ∧ Et G tt1 ρ2 (p a b) ∧ (p a b = true → Ed G te ρ2 (f a b))) :
    El G (tLc2 wi g tYes wi1 g1 tt1 te vs vs1) ρ (l.flatMap fun a => (m.filter (p a)).map (f a)) := fun S σ H E Q q => hs S σ H E _ fun J H1 e1 ⟨Gu, Y, w, hG, hY⟩ => fun Dl hD => by
  have E1 := E.mono e1
  have dm1 := E1.dom
  have view : ∀ {H2 : Hp}, Ex H1 H2 → Ex (vw S H1) (vw (Dl :: S) H2) := fun e => vw_more e hD
  have sz : ∀ i, i ≤ l.length → ((l.take i).flatMap fun a => (m.filter (p a)).map (f a)).length ≤ i * m.length := by
    intro i
    induction i with
    | zero => intro _; simp
    | succ i ih =>
      intro hi
      rw [List.take_add_one, List.getElem?_eq_getElem (by omega), List.flatMap_append, List.length_append]
      have h1 := ih (by omega)
      have h2 : ([l[i]].flatMap fun a => (m.filter (p a)).map (f a)).length ≤ m.length := by
        simp only [List.flatMap_cons, List.flatMap_nil, List.append_nil, List.length_map]
        exact List.length_filter_le _ _
      rw [Nat.add_mul, Nat.one_mul]
      exact Nat.add_le_add h1 h2
  refine ⟨fun i k H2 => k = l.length - i ∧ i ≤ l.length ∧ Ex H1 H2 ∧ ∃ acc, H2 Dl = some (.lst acc) ∧ DpAll G.K (vw (Dl :: S) H2) acc ((l.take i).flatMap fun a => (m.filter (p a)).map (f a)), ⟨l.length, by simp, Nat.zero_le _, Ex.new hD, [], upd_same, .nil⟩, ?_⟩
  rintro i k H2 ⟨rfl, hi, e2, acc, hD2, hacc⟩
  have gd := hG H2 ((view e2).trans vw_le)
  have hlen : (l.map enc).length = l.length := List.length_map ..
  by_cases hlt : i < l.length
  · refine .inr ⟨w.goes i H2 (by omega) gd, fun H3 => Ex H1 H3 ∧ ∃ acc, H3 Dl = some (.lst acc) ∧ DpAll G.K (vw (Dl :: S) H3) acc ((l.take (i + 1)).flatMap fun a => (m.filter (p a)).map (f a)), fun H3 ⟨a1, a2⟩ => ⟨l.length - (i + 1), by omega, rfl, hlt, a1, a2⟩, fun v H3 hyd => ?_⟩
    obtain ⟨e3, bk3, x, hx, rep⟩ := hY i H2 v H3 (by omega) ((view e2).trans vw_le) (w.yields i H2 v H3 (by omega) gd hyd)
    have dm2 : Dom (Dl :: S) H2 := fun a ha => by
      rcases List.mem_cons.mp ha with rfl | ha
      · rw [hD2]
        exact fun z => by cases z
      · exact dm1.mono e2 a ha
    have r := rep (Dl :: S) dm2 (view e2)
    have ex : x = enc l[i] := by
      rw [List.getElem?_map, List.getElem?_eq_getElem hlt] at hx
      exact (Option.some.inj hx).symm
    subst ex
    have E2 : Env G (Dl :: S) (L2.wipe σ vs) H3 (wipeR ρ vs) := (E1.wipe vs).view (dm2.mono e3) (view (e2.trans e3))
    obtain ⟨ρ1, h1, h2, h3⟩ := he l[i] (List.getElem_mem hlt)
    refine h1 (Dl :: S) v _ H3 E2 r _ fun σ2 E3 l2 k2 => ⟨?_, ?_⟩
    · rw [← wipe_wipe σ vs]
      exact wipe_same l2 fun i hi => k2 i fun z => hi (hj i z)
    show wi1 σ2 H3 _
    refine h2 (Dl :: S) σ2 H3 E3 _ fun J1 H4 e4 ⟨Gu1, Y1, w1, hG1, hY1⟩ => ?_
    have E4 := E3.mono e4
    have hlen1 : (m.map enc1).length = m.length := List.length_map ..
    have base4 : Ex H1 H4 := (e2.trans e3).trans e4
    have eD4 : H4 Dl = some (.lst acc) := (e3.trans e4) _ _ hD2
    refine inner_it w1 (fun j H5 => Ex H1 H5 ∧ Dom (Dl :: S) H5 ∧ Ex (vw (Dl :: S) H4) (vw (Dl :: S) H5) ∧ ∃ acc, H5 Dl = some (.lst acc) ∧ DpAll G.K (vw (Dl :: S) H5) acc (((l.take i).flatMap fun a => (m.filter (p a)).map (f a)) ++ ((m.take j).filter (p l[i])).map (f l[i]))) ?_ ?_ ?_ ?_
    · refine ⟨base4, E4.dom, Ex.refl _, acc, eD4, ?_⟩
      rw [List.take_zero, List.filter_nil, List.map_nil, List.append_nil]
      exact dpAll_mono (vw_mono (e3.trans e4)) _ _ hacc
    · intro j H5 _ h
      exact hG1 H5 (h.2.2.1.trans vw_le)
    · rintro j v1 H5 H6 hj5 ⟨a1, dm5, a2, acc1, hD5, hacc1⟩ hy1
      rw [hlen1] at hj5
      obtain ⟨e6, bk6, x1, hx1, rep1⟩ := hY1 j H5 v1 H6 (by omega) (a2.trans vw_le) hy1
      have ex1 : x1 = enc1 m[j] := by
        rw [List.getElem?_map, List.getElem?_eq_getElem hj5] at hx1
        exact (Option.some.inj hx1).symm
      subst ex1
      have r1 := rep1 (Dl :: S) dm5 a2
      have E6 : Env G (Dl :: S) (L2.wipe σ2 vs1) H6 (wipeR ρ1 vs1) := (E4.wipe vs1).view (dm5.mono e6) (a2.trans (vw_mono e6))
      obtain ⟨ρ2, g1, g2, g3⟩ := h3 m[j] (List.getElem_mem hj5)
      have etake : m.take (j + 1) = m.take j ++ [m[j]] := by
        rw [List.take_add_one, List.getElem?_eq_getElem hj5]
        rfl
      refine g1 (Dl :: S) v1 _ H6 E6 r1 _ fun σ3 E7 l3 k3 => ⟨?_, ?_⟩
      · rw [← wipe_wipe σ2 vs1]
        exact wipe_same l3 fun i hi => k3 i fun z => hi (hj1 i z)
      · refine g2 (Dl :: S) σ3 H6 E7 _ fun H7 e7 => ?_
        cases hp : p l[i] m[j] with
        | false =>
          show Ex H1 H7 ∧ _
          refine ⟨(a1.trans e6).trans e7, dm5.mono (e6.trans e7), a2.trans (vw_mono (e6.trans e7)), acc1, (e6.trans e7) _ _ hD5, ?_⟩
          rw [etake, List.filter_append, List.map_append, List.filter_cons, if_neg (by rw [hp]; exact Bool.false_ne_true)]
          simp only [List.filter_nil, List.map_nil, List.append_nil]
          exact dpAll_mono (vw_mono (e6.trans e7)) _ _ hacc1
        | true =>
          show te σ3 H7 _
          refine g3 hp (Dl :: S) σ3 H7 (E7.mono e7) _ fun y H8 e8 r8 => ?_
          have eD : H8 Dl = some (.lst acc1) := ((e6.trans e7).trans e8) _ _ hD5
          have dm8 := dm5.mono ((e6.trans e7).trans e8)
          refine ⟨acc1, eD, ?_, Evl.Ex.mut (((a1.trans e6).trans e7).trans e8) hD, ?_, ?_, acc1 ++ [y], upd_same, ?_⟩
          · rw [dpAll_len hacc1, List.length_append, List.length_map]
            have q1 := sz i (by omega)
            have q2 := List.length_filter_le (p l[i]) (m.take j)
            rw [List.length_take] at q2
            have q3 : (i + 1) * m.length ≤ l.length * m.length := Nat.mul_le_mul_right _ (by omega)
            rw [Nat.add_mul, Nat.one_mul] at q3
            refine sz_lt (Nat.lt_of_lt_of_le ?_ hz)
            omega
          · intro a ha
            by_cases q : a = Dl
            · subst q
              rw [upd_same]
              exact fun z => by cases z
            · rw [upd_ne q]
              exact dm8 a ha
          · rw [vw_hid List.mem_cons_self]
            exact a2.trans (vw_mono ((e6.trans e7).trans e8))
          · rw [vw_hid List.mem_cons_self, etake, List.filter_append, List.map_append, List.filter_cons, if_pos hp, ← List.append_assoc]
            exact dpAll_append (dpAll_mono (vw_mono ((e6.trans e7).trans e8)) _ _ hacc1) (.cons r8 .nil)
    · rintro H5 ⟨a1, dm5, a2, acc1, hD5, hacc1⟩
      refine ⟨a1, acc1, hD5, ?_⟩
      rw [List.take_add_one, List.getElem?_eq_getElem hlt, List.flatMap_append]
      rw [hlen1, List.take_length] at hacc1
      simpa using hacc1
  · have e : i = l.length := by omega
    subst e
    rw [List.take_length] at hacc
    exact .inl ⟨by rw [← hlen]; exact w.stops H2 gd, q Dl acc H2 (fresh_back e1 hD) (e1.trans e2) hD2 hacc⟩
end
end Ek
end

section
set_option Elab.async false
set_option linter.all false
set_option maxRecDepth 100000
set_option maxHeartbeats 4000000
namespace Ek
open PySem PySem.Spec PyProof.Rows L2 K18
open Evl (Ex ex_rd ex_l ex_t fresh_back sz_of sz_lt)

/-! ## statements: what may change are lists of one's own (om: slot and items) and the dice -/
abbrev Om := List (Nat × List PyData)
def DiceAt (H : Hp) (d : Addr) : Prop := ∃ x y z : Int, H d = some (.lst [.int x, .int y, .int z])
/-- all that stood stands, but the dice -/
def Bs (G : Gd) (Hb H : Hp) : Prop := ∀ a o, some a ≠ G.dd → Hb a = some o → H a = some o
def Dic (G : Gd) (S0 : List Addr) (H : Hp) : Prop := ∀ d, G.dd = some d → d ∈ S0 ∧ DiceAt H d
structure Sta (G : Gd) (S0 : List Addr) (Hb : Hp) (σ : L2.St) (H : Hp) (ρ : Rho) (om : Om) (ls : List Addr) : Prop where
  env : Env G (ls ++ S0) σ H ρ
  base : Bs G Hb H
  new : ∀ l ∈ ls, Hb l = none ∧ l ∉ S0
  nd : ls.Nodup
  len : ls.length = om.length
  own : ∀ (k i : Nat) (ds : List PyData), om[k]? = some (i, ds) → ∃ l xs, ls[k]? = some l ∧ σ[i]? = some (some (.ref l)) ∧ H l = some (.lst xs) ∧ DpAll G.K (vw (ls ++ S0) H) xs ds
  dice : Dic G S0 H
def Stt (G : Gd) (S0 : List Addr) (Hb : Hp) (σ : L2.St) (H : Hp) (ρ : Rho) (om : Om) : Prop := ∃ ls, Sta G S0 Hb σ H ρ om ls
theorem DiceAt.ex {H H' : Hp} {d : Addr} (e : Ex H H') (h : DiceAt H d) : DiceAt H' d := let ⟨x, y, z, k⟩ := h; ⟨x, y, z, e _ _ k⟩
theorem Bs.ex {G : Gd} {Hb H H' : Hp} (b : Bs G Hb H) (e : Ex H H') : Bs G Hb H' := fun a o n h => e a o (b a o n h)
theorem Dic.ex {G : Gd} {S0 : List Addr} {H H' : Hp} (b : Dic G S0 H) (e : Ex H H') : Dic G S0 H' := fun d h => ⟨(b d h).1, (b d h).2.ex e⟩
theorem Sta.ex {G : Gd} {S0 : List Addr} {Hb : Hp} {σ : L2.St} {H H' : Hp} {ρ : Rho} {om : Om} {ls : List Addr} (x : Sta G S0 Hb σ H ρ om ls) (e : Ex H H') : Sta G S0 Hb σ H' ρ om ls :=
  ⟨x.env.mono e, x.base.ex e, x.new, x.nd, x.len, fun k i ds h => let ⟨l, xs, h1, h2, h3, h4⟩ := x.own k i ds h; ⟨l, xs, h1, h2, e _ _ h3, dpAll_mono (vw_mono e) _ _ h4⟩, x.dice.ex e⟩
/-- the own lists seen as data -/
def shw (ρ : Rho) : Om → Rho
  | [] => ρ
  | (i, ds) :: om => (shw ρ om).set i (some (.dat (.list ds)))
theorem env_shw {G : Gd} {S0 : List Addr} {σ : L2.St} {H : Hp} : ∀ {om : Om} {ρ : Rho} , Env G S0 σ H ρ → (∀ i ds, (i, ds) ∈ om → ∃ v, σ[i]? = some (some v) ∧ Dp G.K (vw S0 H) v (.list ds)) → Env G S0 σ H (shw ρ om)
  | [], ρ, E, _ => E
  | (i, ds) :: om, ρ, E, h => by
    have ih := env_shw (om := om) E fun j es hm => h j es (List.mem_cons_of_mem _ hm)
    obtain ⟨v, h1, h2⟩ := h i ds List.mem_cons_self
    have k := ih.set i (v := v) (e := .dat (.list ds)) h2
    have e : σ.set i (some v) = σ := by
      refine List.ext_getElem? fun j => ?_
      by_cases hj : i = j
      · subst hj
        have hl := (List.getElem?_eq_some_iff.mp h1).1
        rw [List.getElem?_set_self hl, h1]
      · rw [List.getElem?_set_ne hj]
    rw [e] at k
    exact k
theorem dom_tail {ls S0 : List Addr} {H : Hp} (d : Dom (ls ++ S0) H) : Dom S0 H := fun a h => d a (List.mem_append_right _ h)
theorem Sta.shw {G : Gd} {S0 : List Addr} {Hb : Hp} {σ : L2.St} {H : Hp} {ρ : Rho} {om : Om} {ls : List Addr} (x : Sta G S0 Hb σ H ρ om ls) : Env G S0 σ H (Ek.shw ρ om) := by
  have sub : Ex (vw (ls ++ S0) H) (vw S0 H) := vw_sub fun a h => List.mem_append_right _ h
  refine env_shw (x.env.view (dom_tail x.env.dom) sub) fun i ds hm => ?_
  obtain ⟨k, hk⟩ := List.getElem?_of_mem hm
  obtain ⟨l, xs, h1, h2, h3, h4⟩ := x.own k i ds hk
  refine ⟨_, h2, .lst (.inl (.inl ?_)) (dpAll_mono sub _ _ h4)⟩
  rw [vw_out (x.new l (List.mem_of_getElem? h1)).2]
  exact h3
section
variable (G : Gd)
/-- R: what may be handed back; N: how it may go on -/
def Em (ts : TS) (ρ : Rho) (om : Om) (R : Ent → Prop) (N : Rho → Om → Prop) : Prop := ∀ S0 Hb D, (∀ v H' e, R e → Bs G Hb H' → Dic G S0 H' → Rep G (vw S0 H') v e → D.rt v H') →
  (∀ ρ' om' σ H, N ρ' om' → Stt G S0 Hb σ H ρ' om' → D.nx σ H) → ∀ σ H, Stt G S0 Hb σ H ρ om → ts D σ H
end
/-- the slots of the own lists -/
def slots (om : Om) : List Nat := om.map (·.1)
section
variable {G : Gd} {ρ ρ1 : Rho} {om om1 : Om} {ta tb te tl : TE} {t u : TS} {tt : TT} {x y : Ent} {d : PyData} {R : Ent → Prop} {N N1 : Rho → Om → Prop} {S0 : List Addr} {Hb : Hp} {σ : L2.St} {H : Hp}
theorem Sta.set {ls : List Addr} (s : Sta G S0 Hb σ H ρ om ls) {i : Nat} {v : V} {e : Ent} (r : Rep G (vw (ls ++ S0) H) v e) (hi : i ∉ slots om) : Sta G S0 Hb (σ.set i (some v)) H (ρ.set i (some e)) om ls :=
  ⟨s.env.set i r, s.base, s.new, s.nd, s.len, fun k j ds h => by
    obtain ⟨l, xs, h1, h2, h3, h4⟩ := s.own k j ds h
    refine ⟨l, xs, h1, ?_, h3, h4⟩
    rw [List.getElem?_set_ne fun q => hi (List.mem_map.mpr ⟨(j, ds), List.mem_of_getElem? h, q.symm⟩)]
    exact h2, s.dice⟩
theorem Sta.weak {ls : List Addr} (s : Sta G S0 Hb σ H ρ om ls) (w : Weak ρ ρ1) : Sta G S0 Hb σ H ρ1 om ls := ⟨s.env.weak w, s.base, s.new, s.nd, s.len, s.own, s.dice⟩
theorem em_seq (h1 : Em G t ρ om R N1) (h2 : ∀ ρ1 om1, N1 ρ1 om1 → Em G u ρ1 om1 R N) : Em G (tSeq t u) ρ om R N := fun S0 Hb D hr hn σ H s =>
  h1 S0 Hb { D with nx := u D } hr (fun ρ1 om1 σ1 H1 n1 s1 => h2 ρ1 om1 n1 S0 Hb D hr hn σ1 H1 s1) σ H s
theorem em_next (h : N ρ om) : Em G tNext ρ om R N := fun S0 Hb D hr hn σ H s => hn ρ om σ H h s
theorem em_weak (w : Weak ρ ρ1) (h : Em G t ρ1 om R N) : Em G t ρ om R N := fun S0 Hb D hr hn σ H ⟨ls, s⟩ => h S0 Hb D hr hn σ H ⟨ls, s.weak w⟩
theorem em_mono {R' : Ent → Prop} {N' : Rho → Om → Prop} (h : Em G t ρ om R N) (hr : ∀ e, R e → R' e) (hn : ∀ ρ om, N ρ om → N' ρ om) : Em G t ρ om R' N' := fun S0 Hb D kr kn σ H s =>
  h S0 Hb D (fun v H' e r => kr v H' e (hr e r)) (fun ρ' om' σ H n => kn ρ' om' σ H (hn _ _ n)) σ H s
theorem em_ret (h : Ev G te (shw ρ om) x) (hR : R x) : Em G (tRet te) ρ om R N := fun S0 Hb D hr hn σ H ⟨ls, s⟩ => h S0 σ H s.shw _ fun v H' e r => hr v H' x hR (s.base.ex e) (s.dice.ex e) r
theorem em_asg {i : Nat} (h : Ev G te ρ x) (hi : i ∉ slots om) (hN : N (ρ.set i (some x)) om) : Em G (tAsg te (gName i)) ρ om R N := fun S0 Hb D hr hn σ H ⟨ls, s⟩ =>
  h _ σ H s.env _ fun v H' e r => hn _ _ _ _ hN ⟨ls, (s.ex e).set r hi⟩
/-- a value that leans on no object, out of one's own lists -/
theorem em_asgF {i : Nat} (h : Ed G te (shw ρ om) d) (hf : flatD d = true) (hi : i ∉ slots om) (hN : N (ρ.set i (some (.dat d))) om) : Em G (tAsg te (gName i)) ρ om R N := fun S0 Hb D hr hn σ H ⟨ls, s⟩ =>
  h S0 σ H s.shw _ fun v H' e r => hn _ _ _ _ hN ⟨ls, (s.ex e).set (e := .dat d) (by
    cases d with
    | none => cases dp_none r; exact .non
    | bool b => cases dp_bool r; exact .bl b
    | int i => cases dp_int r; exact .int i
    | _ => cases hf) hi⟩
theorem em_if {tc : TT} {b : Bool} (h : Et G tc (shw ρ om) b) (h1 : b = true → Em G t ρ om R N) (h2 : b = false → Em G u ρ om R N) : Em G (tIfS tc t u) ρ om R N := fun S0 Hb D hr hn σ H ⟨ls, s⟩ =>
  h S0 σ H s.shw _ fun H' e => by
    cases b with
    | true => exact h1 rfl S0 Hb D hr hn σ H' ⟨ls, s.ex e⟩
    | false => exact h2 rfl S0 Hb D hr hn σ H' ⟨ls, s.ex e⟩
/-- an own list more -/
theorem Sta.newList {ls : List Addr} (s : Sta G S0 Hb σ H ρ om ls) {p : Addr} {H' : Hp} {xs : List V} {ds : List PyData} {i : Nat} (hp : H p = none) (e : Ex H H') (h : H' p = some (.lst xs)) (hd : DpAll G.K (vw (p :: (ls ++ S0)) H') xs ds) (hi : i ∉ slots om) (hl0 : i < ρ.length) :
    Sta G S0 Hb (σ.set i (some (.ref p))) H' (ρ.set i none) ((i, ds) :: om) (p :: ls) := by
  have np : p ∉ ls ++ S0 := s.env.dom.new hp
  have s' := s.ex e
  have up : Ex (vw (ls ++ S0) H) (vw (p :: (ls ++ S0)) H') := vw_more e hp
  refine ⟨⟨?_, by rw [List.length_set, List.length_set]; exact s.env.len, fun j y hj => ?_⟩, s'.base, ?_, List.nodup_cons.mpr ⟨fun q => np (List.mem_append_left _ q), s.nd⟩, by simp [s.len], ?_, s'.dice⟩
  · intro a ha
    rcases List.mem_cons.mp ha with rfl | ha
    · rw [h]
      exact fun z => by cases z
    · exact s'.env.dom a ha
  · have hji : i ≠ j := fun q => by
      subst q
      by_cases hl : i < ρ.length
      · rw [List.getElem?_set_self hl] at hj
        cases hj
      · rw [List.getElem?_eq_none (by rw [List.length_set]; omega)] at hj
        cases hj
    rw [List.getElem?_set_ne hji] at hj
    obtain ⟨v, h1, h2⟩ := s.env.at_ j y hj
    exact ⟨v, by rw [List.getElem?_set_ne hji]; exact h1, rep_mono up h2⟩
  · intro l hl
    rcases List.mem_cons.mp hl with rfl | hl
    · refine ⟨?_, fun q => np (List.mem_append_right _ q)⟩
      cases q : Hb l with
      | none => rfl
      | some o =>
        by_cases hdd : some l = G.dd
        · obtain ⟨_, x, y, z, k⟩ := s.dice l hdd.symm
          rw [hp] at k
          cases k
        · have := s.base l o hdd q
          rw [hp] at this
          cases this
    · exact s.new l hl
  · intro k j es hk
    cases k with
    | zero =>
      cases (show (i, ds) = (j, es) from Option.some.inj hk)
      exact ⟨p, xs, rfl, List.getElem?_set_self (by rw [s.env.len]; exact hl0), h, hd⟩
    | succ k =>
      obtain ⟨l, ys, h1, h2, h3, h4⟩ := s.own k j es (by simpa using hk)
      refine ⟨l, ys, by simpa using h1, ?_, e _ _ h3, dpAll_mono up _ _ h4⟩
      rw [List.getElem?_set_ne fun q => hi (List.mem_map.mpr ⟨(j, es), List.mem_of_getElem? (by simpa using hk), q.symm⟩)]
      exact h2

/-- an own list turned -/
theorem Sta.upd {ls : List Addr} (s : Sta G S0 Hb σ H ρ om ls) {k i : Nat} {ds ds' : List PyData} (hk : om[k]? = some (i, ds)) {l : Addr} {xs' : List V} (hl : ls[k]? = some l) (hd : DpAll G.K (vw (ls ++ S0) H) xs' ds') :
    Sta G S0 Hb σ (upd H l (.lst xs')) ρ (om.set k (i, ds')) ls := by
  have ml : l ∈ ls := List.mem_of_getElem? hl
  have hv : vw (ls ++ S0) (L2.upd H l (.lst xs')) = vw (ls ++ S0) H := vw_hid (List.mem_append_left _ ml)
  obtain ⟨n1, n2⟩ := s.new l ml
  refine ⟨⟨fun a ha => ?_, s.env.len, fun j y hj => ?_⟩, fun a o hn hb => ?_, s.new, s.nd, by rw [List.length_set]; exact s.len, fun j i' es hj => ?_, fun d hd => ?_⟩
  · by_cases q : a = l
    · subst q
      rw [upd_same]
      exact fun z => by cases z
    · rw [upd_ne q]
      exact s.env.dom a ha
  · rw [hv]
    exact s.env.at_ j y hj
  · rw [upd_ne fun q => by rw [q, n1] at hb; cases hb]
    exact s.base a o hn hb
  · by_cases q : j = k
    · subst q
      have hlt := (List.getElem?_eq_some_iff.mp hk).1
      rw [List.getElem?_set_self hlt] at hj
      cases hj
      obtain ⟨l', xs, h1, h2, h3, h4⟩ := s.own j i ds hk
      rw [hl] at h1
      cases h1
      exact ⟨l, xs', hl, h2, upd_same, by rw [hv]; exact hd⟩
    · rw [List.getElem?_set_ne fun z => q z.symm] at hj
      obtain ⟨l', xs, h1, h2, h3, h4⟩ := s.own j i' es hj
      have ne : l' ≠ l := fun z => by
        subst z
        exact q (nd_ix s.nd h1 hl)
      exact ⟨l', xs, h1, h2, by rw [upd_ne ne]; exact h3, by rw [hv]; exact h4⟩
  · obtain ⟨h1, x, y, z, h2⟩ := s.dice d hd
    exact ⟨h1, x, y, z, by rw [upd_ne (fun q : d = l => n2 (q ▸ h1))]; exact h2⟩
theorem env_var {ls : List Addr} (s : Sta G S0 Hb σ H ρ om ls) {k i : Nat} {ds : List PyData} (hk : om[k]? = some (i, ds)) : ∃ l xs, ls[k]? = some l ∧ σ[i]? = some (some (.ref l)) ∧ H l = some (.lst xs) ∧ DpAll G.K (vw (ls ++ S0) H) xs ds := s.own k i ds hk
theorem em_new {i : Nat} {ds : List PyData} (h : El G te ρ ds) (hi : i ∉ slots om) (hl : i < ρ.length) (hN : N (ρ.set i none) ((i, ds) :: om)) : Em G (tAsg te (gName i)) ρ om R N := fun S0 Hb D hr hn σ H ⟨ls, s⟩ =>
  h _ σ H s.env _ fun p xs H' hp e hx hd => hn _ _ _ _ hN ⟨p :: ls, s.newList hp e hx hd hi hl⟩
/-- x.append(e), x an own list -/
theorem em_append {k i : Nat} {ds : List PyData} (hk : om[k]? = some (i, ds)) (h : Ed G te ρ d) (hz : ds.length < 100000) (hN : N ρ (om.set k (i, ds ++ [d]))) :
    Em G (tDrop (tBM G.K "list" rAppend (tVar i) (tCons te tNil))) ρ om R N := fun S0 Hb D hr hn σ H ⟨ls, s⟩ => by
  obtain ⟨l, xs, h1, h2, h3, h4⟩ := s.own k i ds hk
  refine ⟨_, h2, .inl ⟨rfl, xs, .inl (.inl h3)⟩, h _ σ H s.env _ fun v H' e r => ?_⟩
  have s' := s.ex e
  refine ⟨l, xs, v, rfl, rfl, e _ _ h3, by rw [dpAll_len h4]; exact sz_lt hz, hn _ _ _ _ hN ⟨ls, s'.upd hk h1 (dpAll_append (dpAll_mono (vw_mono e) _ _ h4) (.cons r .nil))⟩⟩
/-- x.extend([..]) -/
theorem em_extend {k i : Nat} {ds es : List PyData} (hk : om[k]? = some (i, ds)) (h : El G te ρ es) (hz : ds.length + es.length ≤ 100000) (hN : N ρ (om.set k (i, ds ++ es))) :
    Em G (tDrop (tBM G.K "list" rExtend (tVar i) (tCons te tNil))) ρ om R N := fun S0 Hb D hr hn σ H ⟨ls, s⟩ => by
  obtain ⟨l, xs, h1, h2, h3, h4⟩ := s.own k i ds hk
  refine ⟨_, h2, .inl ⟨rfl, xs, .inl (.inl h3)⟩, h _ σ H s.env _ fun p ys H' hp e hy hd => ?_⟩
  have s' := s.ex e
  refine ⟨l, p, xs, ys, rfl, rfl, e _ _ h3, hy, by rw [dpAll_len h4, dpAll_len hd]; exact sz_of hz, hn _ _ _ _ hN ⟨ls, s'.upd hk h1 (dpAll_append (dpAll_mono (vw_mono e) _ _ h4) (dpAll_mono (vw_sub fun _ z => List.mem_cons_of_mem _ z) _ _ hd))⟩⟩
theorem flats_dp {K : PySem.W.Frag} {H H' : Hp} : ∀ {vs : List V} {ds : List PyData}, ds.all flatD = true → DpAll K H vs ds → DpAll K H' vs ds
  | _, _, _, .nil => .nil
  | _, d :: ds, h, .cons h1 h2 => by
    rw [List.all_cons, Bool.and_eq_true] at h
    refine .cons ?_ (flats_dp h.2 h2)
    cases d with
    | none => cases dp_none h1; exact .non
    | bool b => cases dp_bool h1; exact .bl b
    | int i => cases dp_int h1; exact .int i
    | _ => cases h.1
/-- x[j] = [..], x an own list; the new list's items lean on nothing -/
theorem em_setL {k i : Nat} {ds es : List PyData} {j : Nat} (hk : om[k]? = some (i, ds)) (h : El G te (shw ρ om) es) (hf : es.all flatD = true) (hb : Ed G tb (shw ρ om) (.int (j : Int))) (hj : j < ds.length)
    (hN : N ρ (om.set k (i, ds.set j (.list es)))) : Em G (tAsg te (gSub (tVar i) tb rSetL)) ρ om R N := fun S0 Hb D hr hn σ H ⟨ls, s⟩ => by
  obtain ⟨l, xs, h1, h2, h3, h4⟩ := s.own k i ds hk
  refine h S0 σ H s.shw _ fun p ys H' hp e hy hd => ?_
  have s' := s.ex e
  refine ⟨_, h2, hb S0 σ H' s'.shw _ fun w H2 e2 r2 => ?_⟩
  have s2 := s'.ex e2
  cases dp_int r2
  have np : p ∉ ls ++ S0 := s.env.dom.new hp
  have hp2 : vw (ls ++ S0) H2 p = some (.lst ys) := by
    rw [vw_out np]
    exact e2 _ _ hy
  have hl := dpAll_len h4
  have set_dp : ∀ {vs : List V} {ds : List PyData} (n : Nat), DpAll G.K (vw (ls ++ S0) H2) vs ds → DpAll G.K (vw (ls ++ S0) H2) (vs.set n (.ref p)) (ds.set n (.list es)) := by
    intro vs ds n hd'
    induction n generalizing vs ds with
    | zero =>
      cases hd' with
      | nil => exact .nil
      | cons _ q => exact .cons (.lst (.inl (.inl hp2)) (flats_dp hf hd)) q
    | succ n ih =>
      cases hd' with
      | nil => exact .nil
      | cons q1 q2 => exact .cons q1 (ih q2)
  refine ⟨l, xs, j, j, rfl, rfl, e2 _ _ (e _ _ h3), ?_, hn _ _ _ _ hN ⟨ls, s2.upd hk h1 (set_dp j (dpAll_mono (vw_mono (e.trans e2)) _ _ h4))⟩⟩
  unfold ixN
  rw [if_pos (by omega), if_pos (by omega), Int.toNat_natCast]
/-- x = y, both own lists; what x held is forgotten, y is not asked again -/
theorem em_move {i j : Nat} {ds es : List PyData} (hi : i ∉ slots om) (hj : j ∉ slots om) (hij : i ≠ j) (hl : i < ρ.length) (hN : N (ρ.set i none) ((i, ds) :: om)) : Em G (tAsg (tVar j) (gName i)) ρ ((j, ds) :: (i, es) :: om) R N := fun S0 Hb D hr hn σ H ⟨ls, s⟩ => by
  obtain ⟨l, xs, h1, h2, h3, h4⟩ := s.own 0 j ds rfl
  have hlen := s.len
  obtain ⟨l0, l1, lr, rfl⟩ : ∃ l0 l1 lr, ls = l0 :: l1 :: lr := by
    cases ls with
    | nil => simp at hlen
    | cons l0 r =>
      cases r with
      | nil => simp at hlen
      | cons l1 lr => exact ⟨l0, l1, lr, rfl⟩
  have el : l0 = l := Option.some.inj h1
  subst el
  refine ⟨_, h2, hn _ _ _ _ hN ⟨l0 :: lr, ?_⟩⟩
  have sub : ∀ a, a ∈ (l0 :: lr) ++ S0 → a ∈ (l0 :: l1 :: lr) ++ S0 := by
    intro a ha
    simp only [List.cons_append, List.mem_cons] at ha ⊢
    rcases ha with ha | ha
    · exact .inl ha
    · exact .inr (.inr ha)
  have up : Ex (vw ((l0 :: l1 :: lr) ++ S0) H) (vw ((l0 :: lr) ++ S0) H) := vw_sub sub
  have nd := List.nodup_cons.mp s.nd
  refine ⟨⟨fun a ha => s.env.dom a (sub a ha), by rw [List.length_set, List.length_set]; exact s.env.len, fun k y hk => ?_⟩, s.base, fun l hl => s.new l ?_, ?_, by simpa using hlen, fun k i' fs hk => ?_, s.dice⟩
  · have hji : i ≠ k := fun q => by
      subst q
      rw [List.getElem?_set_self hl] at hk
      cases hk
    rw [List.getElem?_set_ne hji] at hk
    obtain ⟨v, q1, q2⟩ := s.env.at_ k y hk
    exact ⟨v, by rw [List.getElem?_set_ne hji]; exact q1, rep_mono up q2⟩
  · rcases List.mem_cons.mp hl with rfl | hl
    · exact List.mem_cons_self
    · exact List.mem_cons_of_mem _ (List.mem_cons_of_mem _ hl)
  · refine List.nodup_cons.mpr ⟨fun q => nd.1 (List.mem_cons_of_mem _ q), (List.nodup_cons.mp nd.2).2⟩
  · cases k with
    | zero =>
      cases (show (i, ds) = (i', fs) from Option.some.inj hk)
      exact ⟨l0, xs, rfl, List.getElem?_set_self (by rw [s.env.len]; exact hl), h3, dpAll_mono up _ _ h4⟩
    | succ k =>
      have hk : om[k]? = some (i', fs) := by simpa using hk
      obtain ⟨l', ys, q1, q2, q3, q4⟩ := s.own (k + 2) i' fs (by simpa using hk)
      refine ⟨l', ys, by simpa using q1, ?_, q3, dpAll_mono up _ _ q4⟩
      rw [List.getElem?_set_ne fun q => hi (List.mem_map.mpr ⟨(i', fs), List.mem_of_getElem? hk, q.symm⟩)]
      exact q2
theorem em_parDD {i j : Nat} {tr : TA} (h : Ea G tr ρ [x, y]) (hi : i ∉ slots om) (hj : j ∉ slots om) (hN : N ((ρ.set i (some x)).set j (some y)) om) : Em G (tPar i j tr) ρ om R N := fun S0 Hb D hr hn σ H ⟨ls, s⟩ =>
  h _ σ H s.env _ fun vs H' e r => by
    obtain ⟨v, w, rfl, r1, r2⟩ := repL2 r
    exact ⟨v, w, rfl, hn _ _ _ _ hN ⟨ls, ((s.ex e).set r1 hi).set r2 hj⟩⟩
theorem em_parDL {i j : Nat} {ds : List PyData} (h1 : Ev G ta ρ x) (h2 : El G tb ρ ds) (hi : i ∉ slots om) (hj : j ∉ slots om) (hl : j < ρ.length) (hN : N ((ρ.set i (some x)).set j none) ((j, ds) :: om)) :
    Em G (tPar i j (tCons ta (tCons tb tNil))) ρ om R N := fun S0 Hb D hr hn σ H ⟨ls, s⟩ =>
  h1 _ σ H s.env _ fun v H1 e1 r1 => h2 _ σ H1 (s.ex e1).env _ fun p xs H2 hp e2 hx hd =>
    ⟨v, .ref p, rfl, hn _ _ _ _ hN ⟨p :: ls, ((s.ex e1).set r1 hi).newList hp e2 hx hd hj (by rw [List.length_set]; exact hl)⟩⟩
theorem em_parLL {i j : Nat} {ds es : List PyData} (h1 : El G ta ρ ds) (h2 : El G tb ρ es) (hi : i ∉ slots om) (hj : j ∉ slots om) (hij : i ≠ j) (hli : i < ρ.length) (hlj : j < ρ.length) (hN : N ((ρ.set i none).set j none) ((j, es) :: (i, ds) :: om)) :
    Em G (tPar i j (tCons ta (tCons tb tNil))) ρ om R N := fun S0 Hb D hr hn σ H ⟨ls, s⟩ =>
  h1 _ σ H s.env _ fun p xs H1 hp e1 hx hd => by
    have s1 := s.newList hp e1 hx hd hi hli
    refine h2 (p :: (ls ++ S0)) σ H1 (s.env.view s1.env.dom (vw_more e1 hp)) _ fun q ys H2 hq e2 hy he => ⟨.ref p, .ref q, rfl, hn _ _ _ _ hN ⟨q :: p :: ls, s1.newList hq e2 hy he (by simp only [slots, List.map_cons, List.mem_cons, not_or]; exact ⟨fun z => hij z.symm, hj⟩) (by rw [List.length_set]; exact hlj)⟩⟩
/-- target = value, the value no own list -/
theorem em_asgT {g : TG} {js : List Nat} (h : Ev G te ρ x) (ht : Tg G g js ρ x ρ1) (hd : ∀ j ∈ js, j ∉ slots om) (hN : N ρ1 om) : Em G (tAsg te g) ρ om R N := fun S0 Hb D hr hn σ H ⟨ls, s⟩ =>
  h _ σ H s.env _ fun v H' e r => by
    have s' := s.ex e
    refine ht _ v σ H' s'.env r _ fun σ' E' _ k => hn _ _ _ _ hN ⟨ls, E', s'.base, s'.new, s'.nd, s'.len, fun n i ds hk => ?_, s'.dice⟩
    obtain ⟨l, xs, h1, h2, h3, h4⟩ := s'.own n i ds hk
    exact ⟨l, xs, h1, by rw [k i fun z => hd i z (List.mem_map.mpr ⟨(i, ds), List.mem_of_getElem? hk, rfl⟩)]; exact h2, h3, h4⟩
/-! ### loops -/
theorem Sta.rebase {Hc : Hp} {ls : List Addr} (s : Sta G S0 Hc σ H ρ om ls) (h : ∀ a o, Hb a = some o → some a = G.dd ∨ Hc a = some o) (hd : ∀ d, G.dd = some d → d ∈ S0) : Sta G S0 Hb σ H ρ om ls := by
  refine ⟨s.env, fun a o n q => (h a o q).elim (fun z => absurd z n) fun z => s.base a o n z, fun l hl => ?_, s.nd, s.len, s.own, s.dice⟩
  obtain ⟨n1, n2⟩ := s.new l hl
  refine ⟨?_, n2⟩
  cases q : Hb l with
  | none => rfl
  | some o =>
    rcases h l o q with z | z
    · exact absurd (hd l z.symm) n2
    · rw [n1] at z
      cases z
/-- the heap without one's own lists -/
def low (ls : List Addr) (H : Hp) : Hp := fun a => if a ∈ ls then none else H a
theorem low_in {ls : List Addr} {a : Addr} (h : a ∈ ls) : low ls H a = none := if_pos h
theorem low_out {ls : List Addr} {a : Addr} (h : a ∉ ls) : low ls H a = H a := if_neg h
theorem Sta.lowed {ls : List Addr} (s : Sta G S0 Hb σ H ρ om ls) : Sta G S0 (low ls H) σ H ρ om ls :=
  ⟨s.env, fun a o _ q => by
    by_cases k : a ∈ ls
    · rw [low_in k] at q
      cases q
    · rw [low_out k] at q
      exact q, fun l hl => ⟨low_in hl, (s.new l hl).2⟩, s.nd, s.len, s.own, s.dice⟩
theorem Sta.lowed_base {ls : List Addr} (s : Sta G S0 Hb σ H ρ om ls) : ∀ a o, Hb a = some o → some a = G.dd ∨ low ls H a = some o := fun a o q => by
  by_cases n : some a = G.dd
  · exact .inl n
  · refine .inr ?_
    rw [low_out fun k => by rw [(s.new a k).1] at q; cases q]
    exact s.base a o n q
/-- all that was seen is still seen -/
theorem Sta.seen {ls ls' : List Addr} {σ' : L2.St} {H' : Hp} {ρ' : Rho} {om' : Om} (s : Sta G S0 Hb σ H ρ om ls) (s' : Sta G S0 (low ls H) σ' H' ρ' om' ls') : Ex (vw (ls ++ S0) H) (vw (ls' ++ S0) H') := fun a o h => by
  obtain ⟨h1, h2⟩ := vw_some h
  rw [List.mem_append, not_or] at h1
  have hl : low ls H a = some o := by rw [low_out h1.1]; exact h2
  have nd : some a ≠ G.dd := fun z => h1.2 (s.dice a z.symm).1
  have n2 : a ∉ ls' := fun z => by
    rw [(s'.new a z).1] at hl
    cases hl
  rw [vw_out (by rw [List.mem_append, not_or]; exact ⟨n2, h1.2⟩)]
  exact s'.base a o nd hl
theorem em_for {wi : TI} {g : TG} {js : List Nat} {tb : TS} {xs : List Ent} (hs : Sr G wi ρ xs) (Iv : Nat → Rho → Om → Prop) (h0 : Iv 0 ρ om)
    (hb : ∀ i e ρ' om', xs[i]? = some e → Iv i ρ' om' → (∀ j ∈ js, j ∉ slots om') ∧ ∃ ρ1, Tg G g js ρ' e ρ1 ∧ Em G tb ρ1 om' R (Iv (i + 1))) (hN : ∀ ρ' om', Iv xs.length ρ' om' → N ρ' om') : Em G (tFor wi g tb) ρ om R N := fun S0 Hb D hr hn σ H ⟨ls, s⟩ =>
  hs _ σ H s.env _ fun J H1 e1 ⟨Gu, Y, w, hG, hY⟩ => by
    have s1 := s.ex e1
    have sl := s1.lowed
    have back : ∀ {σ' : L2.St} {H' : Hp} {ρ' : Rho} {om' : Om}, Stt G S0 (low ls H1) σ' H' ρ' om' → Stt G S0 Hb σ' H' ρ' om' := fun ⟨ls', s'⟩ => ⟨ls', s'.rebase s1.lowed_base fun d hd => (s1.dice d hd).1⟩
    refine for_it w (fun i σ' H' => ∃ ρ' om', Iv i ρ' om' ∧ Stt G S0 (low ls H1) σ' H' ρ' om') ⟨ρ, om, h0, ls, sl⟩ ?_ ?_ ?_
    · rintro i σ' H' _ ⟨ρ', om', _, ls', s'⟩
      exact hG H' ((s1.seen s').trans vw_le)
    · rintro i v σ' H' H2 hi ⟨ρ', om', iv, ls', s'⟩ hy
      obtain ⟨e2, bk, e, hx, rep⟩ := hY i H' v H2 hi ((s1.seen s').trans vw_le) hy
      obtain ⟨hd, ρ1, ht, hbody⟩ := hb i e ρ' om' hx iv
      have r := rep _ s'.env.dom (s1.seen s')
      have s2 := s'.ex e2
      refine ht _ v σ' H2 s2.env r _ fun σ2 E2 _ k2 => ?_
      refine hbody S0 (low ls H1) { D with nx := fun σ' H' => ∃ ρ' om', Iv (i + 1) ρ' om' ∧ Stt G S0 (low ls H1) σ' H' ρ' om', ct := fun σ' H' => ∃ ρ' om', Iv (i + 1) ρ' om' ∧ Stt G S0 (low ls H1) σ' H' ρ' om', bk := D.nx } (fun v' H' e' re bs dc rp => hr v' H' e' re (fun a o n q => ?_) dc rp) (fun ρ2 om2 σ3 H3 iv3 st3 => ⟨ρ2, om2, iv3, st3⟩) σ2 H2 ⟨ls', E2, s2.base, s2.new, s2.nd, s2.len, fun n j ds hk => ?_, s2.dice⟩
      · rcases s1.lowed_base a o q with z | z
        · exact absurd z n
        · exact bs a o n z
      · obtain ⟨l, ys, q1, q2, q3, q4⟩ := s2.own n j ds hk
        exact ⟨l, ys, q1, by rw [k2 j fun z => hd j z (List.mem_map.mpr ⟨(j, ds), List.mem_of_getElem? hk, rfl⟩)]; exact q2, q3, q4⟩
    · rintro σ' H' ⟨ρ', om', iv, st⟩
      exact hn ρ' om' σ' H' (hN ρ' om' iv) (back st)
theorem em_while {tc : TT} {tb : TS} (W : Nat → Rho → Om → Prop) (m0 : Nat) (h0 : W m0 ρ om) (hs : ∀ m ρ' om', W m ρ' om' → ∃ b, Et G tc (shw ρ' om') b ∧ (b = true → Em G tb ρ' om' R (fun ρ2 om2 => ∃ m', m' < m ∧ W m' ρ2 om2)) ∧ (b = false → N ρ' om')) :
    Em G (tWhile tc tb) ρ om R N := fun S0 Hb D hr hn σ H st => by
  refine ⟨fun m σ' H' => ∃ ρ' om', W m ρ' om' ∧ Stt G S0 Hb σ' H' ρ' om', ⟨m0, ρ, om, h0, st⟩, ?_⟩
  rintro m σ' H' ⟨ρ', om', hw, ls, s⟩
  obtain ⟨b, ht, h1, h2⟩ := hs m ρ' om' hw
  refine ht S0 σ' H' s.shw _ fun H2 e => ?_
  cases b with
  | true => exact ⟨fun σ3 H3 => ∃ m', m' < m ∧ ∃ ρ3 om3, W m' ρ3 om3 ∧ Stt G S0 Hb σ3 H3 ρ3 om3, fun σ3 H3 h => h, h1 rfl S0 Hb { D with nx := fun σ3 H3 => ∃ m', m' < m ∧ ∃ ρ3 om3, W m' ρ3 om3 ∧ Stt G S0 Hb σ3 H3 ρ3 om3, ct := fun σ3 H3 => ∃ m', m' < m ∧ ∃ ρ3 om3, W m' ρ3 om3 ∧ Stt G S0 Hb σ3 H3 ρ3 om3, bk := D.nx } hr (fun ρ3 om3 σ3 H3 ⟨m', hm, w⟩ st3 => ⟨m', hm, ρ3, om3, w, st3⟩) σ' H2 ⟨ls, s.ex e⟩⟩
  | false => exact hn ρ' om' σ' H2 (h2 rfl) ⟨ls, s.ex e⟩
end
end Ek
end

section
set_option Elab.async false
set_option linter.all false
set_option maxRecDepth 100000
set_option maxHeartbeats 4000000
/-! x != y, x an instance whose class has an own __eq__ and object's __ne__: our own rule -/
namespace NeX
open PySem PySem.Spec PyProof.Rows L2 PySem.W
section
variable {prog : Program} {w : World} {M : Model} {A : Around} {E : Value → Shared → Prop} {s : Shared} {K : Frag} {x C L f : Addr} {h₀ : Heap} {m : Str → Option Value} {ox : Obj} {od : Option Obj} {name : Str} {b tb : Value}
theorem ifBound_B {id : String} {args : List Value} {Q : Option Value → Shared → Prop} (X : K.In s.heap) (I : InstAt s.heap x ox C od) (hs : findIn K (.ref C) name = some (some (.builtin id)))
    (hb : ∀ self, bindSpecial (.builtin id) self = pure (.builtin id, [self])) (h : wpAny M A (call (.builtin id) (.ref x :: args)) (fun v => Q (some v)) E s) : wpAny M A (callSpecialIfBound? (.ref x) name args) Q E s := by
  simp only [callSpecialIfBound?, bindSpecialIfBound?]
  refine wpAny_holding (wpAny_bind (wpAny_bind (wpAny_bind (I.type.here ((looks_findIn X hs).here ?_)))))
  refine wpAny_bind (wpAny_askSetting (wpAny_ite ?_))
  have fin : wpAny M A (call (.builtin id) ([.ref x] ++ args) >>= fun v => pure (some v)) Q E s := wpAny_bind (wpAny_mono h (fun v s' h' => wpAny_pure h') fun _ _ h' => h')
  split
  · exact wpAny_bind ((Looks.of_pure (hb _)).here (wpAny_pure (by exact fin)))
  · exact wpAny_tryCatch (wpAny_bind ((Looks.of_pure (hb _)).here (wpAny_pure (by exact fin))))
open Builtin in
theorem obj_ne {Q : Value → Shared → Prop} (hu : A.in1.units < cLine) (X : K.In s.heap) (I : InstAt s.heap x ox C od) (hm : mroIn K C (.type "object") = some true) (he : findIn K (.ref C) "__eq__" = some (some (.ref f))) (hf : isFn K (.ref f) = true)
    (h : wpAny (model prog w) A.in1 (call (.ref f) [.ref x, b]) (fun v s' => ∃ k, v = .bool k ∧ Q (.bool (!k)) s') E s) : wpAny (model prog w) A (call (.builtin "object.__ne__") [.ref x, b]) Q E s := by
  refine wpAny_call (codeAny_call_builtin PySem.F.cmp_object.ne.plain PySem.F.cmpEntry_ne (check_slot (i := "object.__ne__") (owner := "object") (n := "__ne__") PySem.F.cmpKind_ne PySem.F.cmpSplit_ne (I.type.andThen (looks_mroIn X hm)) (PySem.F.cmpArgs_ne _ _) ?_))
  unfold Builtin.«object.__ne__»
  repeat (first
    | with_reducible refine wpAny_cRoomFor hu ?_
    | (refine wpAny_bind (m := callSpecialIfBound? (.ref x) (Str.ofString "__eq__") [b])
        (ifBound_K X I he hf (wpAny_mono h (fun r s' hr => by
          obtain ⟨k, rfl, hq⟩ := hr
          repeat (first | exact hq | exact wpAny_pure hq | exact wpAny_truthy_bool hq | (refine wpAny_bind (m := truthy (.bool _)) (wpAny_truthy_bool ?_)) | wp_step)) fun _ _ e => e)))
    | wp_step)
theorem ne_K {Q : Value → Shared → Prop} (hu : A.units + 1 < cLine) (F : Fr h₀ L s.heap m) (X₀ : K.In h₀) (I : InstAt s.heap x ox C od) (hb : Looks (model prog w) s.heap (typeOf b) tb) (hn : notFirst K C tb = true)
    (hm : mroIn K C (.type "object") = some true) (hs : findIn K (.ref C) "__ne__" = some (some (.builtin "object.__ne__"))) (he : findIn K (.ref C) "__eq__" = some (some (.ref f))) (hf : isFn K (.ref f) = true)
    (h : wpAny (model prog w) A.in1 (call (.ref f) [.ref x, b]) (fun v s' => ∃ k, v = .bool k ∧ Q (.bool (!k)) s') E s) : wpAny (model prog w) A (richCompare .NotEq (.ref x) b) Q E s := by
  have X := X₀.keeps F.keep
  have one : wpAny (model prog w) A (tryCompare (.ref x) (cmpInfo .NotEq).2.1 b) (fun r s' => ∃ v, r = some v ∧ Q v s') E s := by
    unfold tryCompare
    refine wpAny_bind (ifBound_B X I hs PySem.F.cmp_object.ne.bind (obj_ne (show A.units + 1 < cLine from hu) X I hm he hf (wpAny_mono h (fun v s' hv => ?_) fun _ _ e => e)))
    obtain ⟨k, rfl, hq⟩ := hv
    exact ⟨k, rfl, wpAny_pure ⟨_, rfl, hq⟩⟩
  unfold richCompare
  simp only [oneThing_ref]
  refine wpAny_holding (wpAny_bind (wpAny_cRoomFor (Nat.lt_of_succ_lt hu) ?_))
  refine wpAny_bind (I.type.here (wpAny_bind (hb.here ?_)))
  split
  · rename_i q
    have e : subIn K tb (.ref C) = some false := by
      rcases Bool.or_eq_true_iff.mp hn with e | e
      · rw [beq_iff_eq.mp e] at q; simp at q
      · exact beq_iff_eq.mp e
    refine wpAny_bind ((looks_subIn X e).here ?_)
    simp only [Bool.false_eq_true, if_false]
    refine wpAny_bind (wpAny_mono one (fun r s' z => ?_) fun _ _ e => e)
    obtain ⟨v, rfl, hq⟩ := z
    exact wpAny_pure hq
  · refine wpAny_bind (wpAny_pure ?_)
    simp only [Bool.false_eq_true, if_false]
    refine wpAny_bind (wpAny_mono one (fun r s' z => ?_) fun _ _ e => e)
    obtain ⟨v, rfl, hq⟩ := z
    exact wpAny_pure hq
end
section
variable {X : Cx} {CX : CXT} {pins : List (Addr × Obj)} {σ : L2.St} {H : Hp} {s : Shared} {a C dx p g : Addr} {vs : List (Option V)} {f : Str} {n : Nat} {sp : Sp} {E : XK}
/-- x != y, both instances of classes with slots -/
def rNeOwn (K : PySem.W.Frag) (C : Addr) (sp : Sp) (E : XK) : R2 := fun x y H Q => ∃ a dx vs b C' dy ws, x = .ref a ∧ y = .ref b ∧ SlX.Slt H a C dx vs ∧ SlX.Slt H b C' dy ws ∧ PySem.W.notFirst K C (.ref C') = true ∧ sp [x, y] H (fun z H' => ∃ k, z = .bl k ∧ Q (.bl (!k)) H') E
theorem op_neOwn (hm : mroIn X.K C (.type "object") = some true) (hne : PySem.W.findIn X.K (.ref C) "__ne__" = some (some (.builtin "object.__ne__"))) (hs : PySem.W.findIn X.K (.ref C) "__eq__" = some (some (.ref g))) (hf : PySem.W.isFn X.K (.ref g) = true) (F : FnR X.prog X.w X.K X.mg X.base CX n g sp)
    (hr : Room (n + 1) X.A) (hx : Passes CX X E) : OpR X (compareOp .NotEq) (rNeOwn X.K C sp E) := by
  intro pins s σ H x y v u Q I rx ry h
  obtain ⟨a, dx, vs, b, C', dy, ws, rfl, rfl, ha, hb, hn, q⟩ := h
  cases (show v = Value.ref a from rx)
  cases (show u = Value.ref b from ry)
  obtain ⟨sl, od, _, J, _⟩ := SlX.slt_inst I ha
  obtain ⟨sl', od', _, J', _⟩ := SlX.slt_inst I hb
  obtain ⟨m, hF⟩ := I.fr
  unfold compareOp
  have hr2 : Room n X.A.in1 := Room.in1 hr
  refine ne_K (tb := .ref C') (by have := hr.units; omega) hF I.ok.mod.kin J J'.type hn hm hne hs hf ?_
  refine wpAny_mono (wpAny_call (SlX.run_at (us := [.ref a, .ref b]) (ws := [.ref a, .ref b]) F hr2 I.env0.in1 hx I (.cons rfl (.cons rfl .nil)) q)) (fun w s' z => ?_) fun _ _ x => x
  obtain ⟨z', H', I', rz, k, ek, qz⟩ := z
  subst ek
  cases (show w = Value.bool k from rz)
  exact ⟨k, rfl, .bl (!k), H', I', rfl, qz⟩
end
end NeX
end

section
set_option Elab.async false
set_option linter.all false
set_option maxRecDepth 100000
set_option maxHeartbeats 4000000
namespace Ek
open PySem PySem.Spec PyProof.Rows L2 K18
open Evl (Ex ex_rd ex_l ex_t fresh_back sz_of sz_lt)

/-! ## a def's body -/
def startR (N : List Str) (es : List Ent) : Rho := es.map some ++ List.replicate (N.length - es.length) none
theorem env_start {G : Gd} {S : List Addr} {N : List Str} {vs : List V} {H : Hp} {es : List Ent} (dm : Dom S H) (h : RepL G (vw S H) vs es) : Env G S (L2.start N vs) H (startR N es) := by
  have hl : vs.length = es.length := Paired.length h
  refine ⟨dm, by unfold L2.start startR; simp [hl], fun i e hi => ?_⟩
  unfold startR at hi
  by_cases q : i < es.length
  · rw [List.getElem?_append_left (by rw [List.length_map]; exact q), List.getElem?_map] at hi
    have key : ∀ {vs : List V} {es : List Ent} (i : Nat), RepL G (vw S H) vs es → es[i]? = some e → ∃ v, vs[i]? = some v ∧ Rep G (vw S H) v e := by
      intro vs es i h hi
      induction h generalizing i with
      | nil => simp at hi
      | cons r _ ih =>
        cases i with
        | zero =>
          simp at hi
          subst hi
          exact ⟨_, rfl, r⟩
        | succ i => exact ih i (by simpa using hi)
    cases q2 : es[i]? with
    | none => rw [q2] at hi; cases hi
    | some e' =>
      rw [q2] at hi
      have ee : e' = e := Option.some.inj (Option.some.inj hi)
      subst ee
      obtain ⟨v, h1, h2⟩ := key i h q2
      refine ⟨v, ?_, h2⟩
      unfold L2.start
      rw [List.getElem?_append_left (by rw [List.length_map, hl]; exact q), List.getElem?_map, h1]
      rfl
  · rw [List.getElem?_append_right (by rw [List.length_map]; omega), List.getElem?_replicate] at hi
    split at hi <;> cases hi
/-- a def that only reads: run from its promise -/
theorem fn_run {G : Gd} {t : TS} {N : List Str} {vs : List V} {H : Hp} {S : List Addr} {es : List Ent} {y : Ent} {Q : VK} (dm : Dom S H) (hv : RepL { G with dd := none } (vw S H) vs es) (k : ∀ v H', Ex H H' → Rep { G with dd := none } (vw S H') v y → Q v H')
    (h : Em { G with dd := none } t (startR N es) [] (fun e => e = y) (fun _ _ => y = .dat .none)) : t { nx := fun _ H' => Q .non H', rt := Q } (L2.start N vs) H := by
  refine h S H _ (fun v H' e he b _ r => ?_) (fun ρ' om' σ' H' hy ⟨ls, s⟩ => ?_) _ _ ⟨[], env_start dm hv, fun _ _ _ q => q, fun _ z => by simp at z, List.nodup_nil, rfl, fun _ _ _ z => by simp at z, fun _ z => by cases z⟩
  · subst he
    exact k v H' (fun a o q => b a o (fun z => by cases z) q) r
  · subst hy
    exact k .non H' (fun a o q => s.base a o (fun z => by cases z) q) (show Dp G.K (vw S H') .non .none from .non)
/-- a def as a caller sees it -/
structure Has (P : Program) (w : World) (K : PySem.W.Frag) (mg : Str → Option Value) (base : Heap) (x : Str) (k : Nat) (ps : List Str) (sp : Sp) : Prop where
  ex : ∃ f fd, FnOk P w K mg base CX0 k f fd ps sp ∧ mg x = some (.ref f) ∧ PySem.W.keepIn K (.ref f) = true ∧ Binds K fd ps []
theorem pe_fn {X : Cx} {x : Str} {j k : Nat} {ps : List Str} {sp : Sp} {p pos : Pos} {e : Expr} {es : List Expr} {t : TA} (h : Has X.prog X.w X.K X.mg X.base x k ps sp) (hr : Room j X.A) (hjk : k ≤ j) (ha : PA X (e :: es) t) (hg : Gl X x := by rfl)
    (hdb : (x == ("__debug__" : Str)) = false := by decide) (he : starEach (e :: es) X.env = (false, eval e X.env) :: starEach es X.env := by rfl) (hpl : (backTo pos (starEach es X.env)).any (·.1) = false := by rfl) :
    PE X (.Call (.Name x p) (e :: es) [] pos) (tCall sp [] E0 t) := by
  obtain ⟨f, fd, F, hm, hk, hb⟩ := h.ex
  exact pe_call F (hr.mono hjk) hg hm hk hb .nil pass0 ha hdb he hpl
/-- a method of the class at C -/
structure HasM (P : Program) (w : World) (K : PySem.W.Frag) (mg : Str → Option Value) (base : Heap) (C : Addr) (m : Str) (k : Nat) (sp : Sp) : Prop where
  ex : ∃ f, FnR P w K mg base CX0 k f sp ∧ Meth K C m f
theorem fnR_of {P : Program} {w : World} {K : PySem.W.Frag} {mg : Str → Option Value} {base : Heap} {k : Nat} {f : Addr} {fd : FuncData} {ps : List Str} {sp : Sp} (F : FnOk P w K mg base CX0 k f fd ps sp) (hb : Binds K fd ps []) : FnR P w K mg base CX0 k f sp :=
  (FnOk.raw F hb .nil).imp fun vs H Q E h => by
    rw [List.append_nil]
    exact h
theorem pe_mt {X : Cx} {C : Addr} {m : Str} {j k : Nat} {sp : Sp} {o e : Expr} {es : List Expr} {ta : TE} {t : TA} {pos apos : Pos} {pl : Sem Bool} (h : HasM X.prog X.w X.K X.mg X.base C m k sp) (c : SlX.SCls X.K C) (hr : Room j X.A) (hjk : k ≤ j) (he : PE X o ta) (ha : PA X (e :: es) t)
    (hst : starEach (e :: es) X.env = (false, eval e X.env) :: starEach es X.env := by rfl) (hpl : (backTo pos (starEach es X.env)).any (·.1) = false := by rfl)
    (ht : eval (.Call (.Attribute o m apos) (e :: es) [] pos) X.env = (do
      let ov ← eval o X.env
      standAt apos.atName
      let (f, first) ← holding [ov] (getMethod ov m pl)
      callWith pos f first (backTo pos (starEach (e :: es) X.env)) (backToKw pos (keywordEach [] X.env))) := by rfl) : PE X (.Call (.Attribute o m apos) (e :: es) [] pos) (SlX.tMethSl C sp E0 ta t) := by
  obtain ⟨f, F, hm⟩ := h.ex
  exact SlX.pe_methSl he c hm F (hr.mono hjk) pass0 ha hst hpl ht
theorem pe_mt0 {X : Cx} {C : Addr} {m : Str} {j k : Nat} {sp : Sp} {o : Expr} {ta : TE} {pos apos : Pos} {pl : Sem Bool} (h : HasM X.prog X.w X.K X.mg X.base C m k sp) (c : SlX.SCls X.K C) (hr : Room j X.A) (hjk : k ≤ j) (he : PE X o ta)
    (ht : eval (.Call (.Attribute o m apos) [] [] pos) X.env = (do
      let ov ← eval o X.env
      standAt apos.atName
      let (f, first) ← holding [ov] (getMethod ov m pl)
      callWith pos f first (backTo pos (starEach [] X.env)) (backToKw pos (keywordEach [] X.env))) := by rfl) : PE X (.Call (.Attribute o m apos) [] [] pos) (SlX.tMethSl C sp E0 ta tNil) := by
  obtain ⟨f, F, hm⟩ := h.ex
  exact SlX.pe_methSl0 he c hm F (hr.mono hjk) pass0 ht
/-- a property of the class at C -/
structure HasP (P : Program) (w : World) (K : PySem.W.Frag) (mg : Str → Option Value) (base : Heap) (C : Addr) (m : Str) (k : Nat) (sp : Sp) : Prop where
  ex : ∃ p g, FnR P w K mg base CX0 k g sp ∧ PySem.W.findIn K (.ref C) m = some (some (.ref p)) ∧ PySem.W.specialIn K (.ref p) "__get__" = some (some (.builtin "property.__get__")) ∧ PySem.W.takesIn K (.ref p) = some true ∧ ∃ rest, PySem.W.recIn K p "property" = some (.ref g :: rest)
theorem pe_pr {X : Cx} {C : Addr} {m : Str} {j k : Nat} {sp : Sp} {e : Expr} {ta : TE} {pos : Pos} (h : HasP X.prog X.w X.K X.mg X.base C m k sp) (c : SlX.SCls X.K C) (hr : Room j X.A) (hjk : k + 1 ≤ j) (he : PE X e ta) (hb : attributeBase e m X.env (eval e X.env) = eval e X.env := by rfl) :
    PE X (.Attribute e m pos) (SlX.tPropSl C sp E0 ta) := by
  obtain ⟨p, g, F, h1, h2, h3, h4⟩ := h.ex
  exact SlX.pe_propSl he c h1 h2 h3 h4 F (hr.mono hjk) (fun _ _ _ _ z => z) hb
/-- C(..) -/
structure HasI (P : Program) (w : World) (K : PySem.W.Frag) (mg : Str → Option Value) (base : Heap) (x : Str) (C : Addr) (k : Nat) (ps : List Str) (sp : Sp) : Prop where
  ex : ∃ f fd, FnOk P w K mg base CX0 k f fd ps sp ∧ Mk K C f ∧ Binds K fd ps []
  mg : mg x = some (.ref C)
theorem pe_mk {X : Cx} {C : Addr} {x : Str} {j k : Nat} {ps : List Str} {sp : Sp} {p pos : Pos} {e : Expr} {es : List Expr} {t : TA} (h : HasI X.prog X.w X.K X.mg X.base x C k ps sp) (hr : Room j X.A) (hjk : k + 1 ≤ j) (ha : PA X (e :: es) t) (hg : Gl X x := by rfl)
    (hdb : (x == ("__debug__" : Str)) = false := by decide) (he : starEach (e :: es) X.env = (false, eval e X.env) :: starEach es X.env := by rfl) (hpl : (backTo pos (starEach es X.env)).any (·.1) = false := by rfl) :
    PE X (.Call (.Name x p) (e :: es) [] pos) (tMake C sp [] E0 t) := by
  obtain ⟨f, fd, F, M, hb⟩ := h.ex
  exact pe_make M F (hr.mono hjk) hg h.mg hb .nil pass0 ha hdb he hpl
end Ek
end

section
set_option Elab.async false
set_option linter.all false
set_option maxRecDepth 100000
set_option maxHeartbeats 4000000
namespace Ek
open PySem PySem.Spec PyProof.Rows L2 K18
open Evl (Ex ex_rd ex_l ex_t fresh_back sz_of sz_lt)

/-- the i-th statement of the text -/
def topS (i : Nat) : Stmt := PySem.Challenge.pw_anymargin_k18_whole_zones_within_and_bot.main.body.getD i (.Pass ⟨0, 0, 0, 0⟩)
/-- names that are still the built-in ones; the text's own numbers -/
structure Bi (mg : Str → Option Value) : Prop where
  len : mg "len" = none
  abs : mg "abs" = none
  max : mg "max" = none
  min : mg "min" = none
  isinstance : mg "isinstance" = none
  all : mg "all" = none
  any : mg "any" = none
  sum : mg "sum" = none
  int : mg "int" = none
  bool : mg "bool" = none
  tuple : mg "tuple" = none
  list : mg "list" = none
  range : mg "range" = none
  zip : mg "zip" = none
  enumerate : mg "enumerate" = none
  repr : mg "repr" = none
  g_GREATEST : ∃ t, mg "GREATEST" = some (.int (10 ^ 60) t)
  g_PAIR : ∃ t, mg "PAIR" = some (.int 2 t)
  g_MOST_UNIT : ∃ t, mg "MOST_UNIT" = some (.int 64 t)
  g_MOST_CLOCKS : ∃ t, mg "MOST_CLOCKS" = some (.int 3 t)
theorem pe_gi {X : Cx} {x : Str} {i : Int} {pos : Pos} (h : ∃ t, X.mg x = some (.int i t)) (hg : Gl X x := by rfl) (hd : (x == ("__debug__" : Str)) = false := by decide) : PE X (.Name x pos) (tC (.int i)) := by
  obtain ⟨t, h⟩ := h
  exact pe_glob hg h ⟨t, rfl⟩ hd
/-! ### isinstance -/
/-- the built-in type of data -/
def tyD : PyData → String
  | .none => "NoneType"
  | .bool _ => "bool"
  | .int _ => "int"
  | .str _ => "str"
  | .list _ => "list"
  | .tuple _ => "tuple"
  | .dict _ => "dict"
theorem tyx_of {K : PySem.W.Frag} {H : Hp} : ∀ {v : V} {d : PyData}, Dp K H v d → TyX K H v (.type (tyD d))
  | _, _, .non => .base .non
  | _, _, .bl b => .base (.bl b)
  | _, _, .int i => .base (.int i)
  | _, _, .str x => .base (.str x)
  | _, _, .lst hs _ => by
    rcases hs with (h | ⟨o, h⟩) | ⟨o, its, n, h1, h2, _⟩
    · exact .base (.lst h)
    · exact .base (.frz h)
    · exact .kList h1 h2
  | _, _, .tup hs _ => by
    rcases hs with (h | ⟨o, h⟩) | ⟨o, its, n, h1, h2, _⟩
    · exact .base (.tup h)
    · exact .fTuple h
    · exact .kTuple h1 h2
theorem ev_isi {G : Gd} {ρ : Rho} {ta : TE} {d : PyData} {n : String} {b : Bool} (h : Ed G ta ρ d) (hb : kitB (tyD d) n = some b := by decide +kernel) : Ed G (tCB (rIsi G.K) (tCons ta (tCons (tC (.ty n)) tNil))) ρ (.bool b) := fun S σ H E Q q => h S σ H E _ fun v H1 e1 r1 =>
  ⟨v, .ty n, _, _, b, rfl, .ty n, tyx_of (dp_mono vw_le _ _ r1), kit_ty hb, q _ H1 e1 (.bl _)⟩
theorem ev_isiT {G : Gd} {ρ : Rho} {ta : TE} {ds : List PyData} (h : Ed G ta ρ (.tuple ds)) : Ed G (tCB (rIsi G.K) (tCons ta (tCons (tC (.ty "tuple")) tNil))) ρ (.bool true) := ev_isi h (show kitB "tuple" "tuple" = some true by decide +kernel)
theorem ev_isiI {G : Gd} {ρ : Rho} {ta : TE} {i : Int} (h : Ed G ta ρ (.int i)) : Ed G (tCB (rIsi G.K) (tCons ta (tCons (tC (.ty "int")) tNil))) ρ (.bool true) := ev_isi h (show kitB "int" "int" = some true by decide +kernel)
theorem ev_isiIb {G : Gd} {ρ : Rho} {ta : TE} {i : Int} (h : Ed G ta ρ (.int i)) : Ed G (tCB (rIsi G.K) (tCons ta (tCons (tC (.ty "bool")) tNil))) ρ (.bool false) := ev_isi h (show kitB "int" "bool" = some false by decide +kernel)
end Ek
end

section
set_option Elab.async false
set_option linter.all false
set_option maxRecDepth 100000
set_option maxHeartbeats 4000000
/-! the rules once more, the written part as a letter of its own -/
namespace Kv
open PySem PySem.Spec PyProof.Rows L2 Ek
section
variable {X : Cx} {tg l e e2 : Expr} {tl ta te : TE} {pos p p2 tpos : Pos} {elts es : List Expr} {kk k n : Nat} {tr t0 : TA} {t : TGs} {lo hi : Option Expr} {tlo thi : TO} (K : PySem.W.Frag)
theorem pi_tupK (hl : PE X l tl) (h : X.K = K := by rfl) : PI X tg l (iTup K tl) := by subst h; exact pi_tup hl
theorem pi_listK (hl : PE X l tl) (h : X.K = K := by rfl) : PI X tg l (iList K tl) := by subst h; exact pi_list hl
theorem ix_tupK (h : X.K = K := by rfl) : IxR X (rIxT K) := by subst h; exact ix_tup
theorem ix_listK (h : X.K = K := by rfl) : IxR X (rIxL K) := by subst h; exact ix_list
theorem cr_allK (hc : X.calm = true := by rfl) (h : X.K = K := by rfl) : CallR X (.builtin "all") (rAll K) := by subst h; exact cr_all hc
theorem cr_anyK (hc : X.calm = true := by rfl) (h : X.K = K := by rfl) : CallR X (.builtin "any") (rAny K) := by subst h; exact cr_any hc
theorem cr_sumK (hc : X.calm = true := by rfl) (h : X.K = K := by rfl) : CallR X (.builtin "sum") (rSum K) := by subst h; exact cr_sum hc
theorem cr_minK (hc : X.calm = true := by rfl) (h : X.K = K := by rfl) : CallR X (.builtin "min") (rMin K) := by subst h; exact cr_min hc
theorem op_eqDK (hu : X.A.units + 64 < cLine) (h : X.K = K := by rfl) : OpR X (compareOp .Eq) (rEqD K) := by subst h; exact op_eqD hu
theorem op_neDK (hu : X.A.units + 64 < cLine) (h : X.K = K := by rfl) : OpR X (compareOp .NotEq) (rNeD K) := by subst h; exact op_neD hu
theorem op_inK (h : X.K = K := by rfl) : OpR X (compareOp .In) (rIn K false) := by subst h; exact op_in_seq
theorem op_notInK (h : X.K = K := by rfl) : OpR X (compareOp .NotIn) (rIn K true) := by subst h; exact op_notIn_seq
theorem op_catAK (h : X.K = K := by rfl) : OpR X (binaryOp .Add) (rCatA K) := by subst h; exact op_catA
theorem sl_tupAK (h : X.K = K := by rfl) : SlR X (rSlA K) := by subst h; exact sl_tupA
theorem call_lenK (h : X.K = K := by rfl) : CallR X (.builtin "len") (rLenS K) := by subst h; exact call_len_seq
theorem call_isiK (h : X.K = K := by rfl) : CallR X (.builtin "isinstance") (rIsi K) := by subst h; exact call_isi
def rListOf (K : PySem.W.Frag) : List V → Hp → VK → Prop := fun xs H Q => ∃ p ys, xs = [V.ref p] ∧ (SqL K H p ys ∨ SqT K H p ys) ∧ ∀ l, H l = none → Q (.ref l) (upd H l (.lst ys))
theorem call_list_ofK (h : X.K = K := by rfl) : CallR X (.type "list") (rListOf K) := by subst h; exact call_list_of
theorem pe_tupleOfK (hg : Gl X "tuple") (hm : X.mg "tuple" = none) (ha : PE X e ta) (h : X.K = K := by rfl) (na : starEach [e] X.env = (false, eval e X.env) :: starEach [] X.env := by rfl) : PE X (.Call (.Name "tuple" p) [e] [] pos) (tThen ta (kTup K)) := by
  subst h; exact pe_tupleOf hg hm ha na
theorem pi_zipK (hg : Gl X "zip") (hm : X.mg "zip" = none) (ha : PA X [e, e2] tr) (h : X.K = K := by rfl) (na : starEach [e, e2] X.env = (false, eval e X.env) :: starEach [e2] X.env := by rfl) (hpl : (backTo pos (starEach [e2] X.env)).any (·.1) = false := by rfl) :
    PI X (.Tuple elts kk tpos) (.Call (.Name "zip" p) [e, e2] [] pos) (RZ.iZipA K tr) := by subst h; exact RZ.pi_zipA hg hm ha na hpl
theorem pi_enumK (hg : Gl X "enumerate") (hm : X.mg "enumerate" = none) (ha : PA X [e] tr) (h : X.K = K := by rfl) (na : starEach [e] X.env = [(false, eval e X.env)] := by rfl) :
    PI X (.Tuple elts kk tpos) (.Call (.Name "enumerate" p) [e] [] pos) (Enu.iEnumT K tr) := by subst h; exact Enu.pi_enumT hg hm ha na
theorem pg_tupK (hc : X.calm = true) (h : PGs X es t) (hk : X.K = K := by rfl) (hn : (assignEach es X.env).length = n := by rfl) (hst : (assignEach es X.env).findIdx? (·.1) = none := by rfl) : PG X (.Tuple es k pos) (gTup K n t) := by subst hk; exact pg_tup hc h hn hst
theorem pg_unlK (hc : X.calm = true) (h : PGs X es t) (hk : X.K = K := by rfl) (hn : (assignEach es X.env).length = n := by rfl) (hst : (assignEach es X.env).findIdx? (·.1) = none := by rfl) : PG X (.Tuple es k pos) (gUnl K n t) := by subst hk; exact pg_unl hc h hn hst
theorem pe_slK {f : Str} (he : PE X e ta) (h : X.K = K := by rfl) (hb : attributeBase e f X.env (eval e X.env) = eval e X.env := by rfl) : PE X (.Attribute e f pos) (SlX.tSl K ta f) := by subst h; exact SlX.pe_sl he hb
theorem ps_slK {o value : Expr} {f : Str} {pos' : Pos} {tv : TE} (ha : PE X o ta) (hv : PE X value tv) (h : X.K = K := by rfl) (hs : swapsWith value (some (.Attribute o f pos')) pos.line X.env = pure false := by rfl) : PS X (.Assign [.Attribute o f pos'] value pos) (SlX.sSl K ta tv f) := by
  subst h; exact SlX.ps_sl ha hv hs
end
end Kv
end

section
set_option Elab.async false
set_option linter.all false
set_option maxRecDepth 100000
set_option maxHeartbeats 4000000
namespace Ek
open PySem PySem.Spec PyProof.Rows L2 K18
open Evl (Ex ex_rd ex_l ex_t fresh_back sz_of sz_lt)
abbrev lrowD (r : K18.Row) : PyData := .list (r.map oi)
def lmD (m : Mat) : PyData := .list (m.map lrowD)
theorem Sq.rowlen {n : Nat} {m : Mat} (h : Sq n m) {i : Nat} (hi : i < n) : (m.getD i []).length = n := by
  obtain ⟨r, h1, h2, _⟩ := h.get hi
  rw [List.getD_eq_getElem?_getD, h1]
  exact h2
theorem at_map {α β : Type} {l : List α} {f : α → β} {i : Nat} (d : α) (hi : i < l.length) : atI (l.map f) (i : Int) = some (f (l.getD i d)) := atI_nat (by
  rw [List.getElem?_map, List.getD_eq_getElem?_getD, List.getElem?_eq_getElem hi]
  rfl)
theorem at_mat {n : Nat} {m : Mat} (h : Sq n m) {i : Nat} (hi : i < n) : atI (m.map rowD) (i : Int) = some (rowD (m.getD i [])) := at_map [] (by rw [h.1]; exact hi)
theorem at_lmat {n : Nat} {m : Mat} (h : Sq n m) {i : Nat} (hi : i < n) : atI (m.map lrowD) (i : Int) = some (lrowD (m.getD i [])) := at_map [] (by rw [h.1]; exact hi)
theorem at_ent {n : Nat} {m : Mat} (h : Sq n m) {i j : Nat} (hi : i < n) (hj : j < n) : atI ((m.getD i []).map oi) (j : Int) = some (oi (ent m i j)) := at_map none (by rw [Sq.rowlen h hi]; exact hj)
section
variable {G : Gd} {ρ : Rho} {tl : TE}
theorem sr_tupM {α : Type} {l : List α} {f : α → PyData} (h : Ed G tl ρ (.tuple (l.map f))) : Sr G (iTup G.K tl) ρ (l.map fun a => .dat (f a)) := by
  have := sr_tup h
  rw [List.map_map] at this
  exact this
theorem sr_lstM {α : Type} {l : List α} {f : α → PyData} (h : Ed G tl ρ (.list (l.map f))) : Sr G (iList G.K tl) ρ (l.map fun a => .dat (f a)) := by
  have := sr_lst h
  rw [List.map_map] at this
  exact this
theorem el_lcB {wi : TI} {g : TG} {te : TE} {vs js : List Nat} {α : Type} {l : List α} {enc : α → Ent} (f : α → Bool) (hs : Sr G wi ρ (l.map enc)) (hz : l.length ≤ 100000) (hj : ∀ j ∈ js, j ∈ vs)
    (he : ∀ a, a ∈ l → ∃ ρ1, Tg G g js (wipeR ρ vs) (enc a) ρ1 ∧ Ed G te ρ1 (.bool (f a))) : El G (tLc wi g tYes te vs) ρ ((l.map f).map .bool) := by
  have h := el_lc (f := fun a => PyData.bool (f a)) hs hz hj he
  rw [List.map_map]
  exact h
theorem El.to {te : TE} {ds es : List PyData} (h : El G te ρ ds) (e : ds = es) : El G te ρ es := e ▸ h
end
theorem mp_get {α : Type} {l : List α} {f : α → Ent} {i : Nat} {e : Ent} (d : α) (h : (l.map f)[i]? = some e) : i < l.length ∧ e = f (l.getD i d) := by
  rw [List.getElem?_map] at h
  cases q : l[i]? with
  | none => rw [q] at h; cases h
  | some a =>
    rw [q] at h
    have hi := (List.getElem?_eq_some_iff.mp q).1
    refine ⟨hi, ?_⟩
    rw [List.getD_eq_getElem?_getD, q]
    exact (Option.some.inj h).symm
theorem rg_get {n : Nat} {f : Nat → Ent} {i : Nat} {e : Ent} (h : ((List.range n).map f)[i]? = some e) : i < n ∧ e = f i := by
  obtain ⟨h1, h2⟩ := mp_get 0 h
  rw [List.length_range] at h1
  refine ⟨h1, ?_⟩
  rw [List.getD_eq_getElem?_getD, List.getElem?_range h1] at h2
  exact h2
/-- x, y = ([..], e): x an own list -/
theorem em_tupLD {G : Gd} {ρ : Rho} {om : Om} {ta tb : TE} {R : Ent → Prop} {N : Rho → Om → Prop} {i j : Nat} {ds : List PyData} {d : PyData} (h1 : El G ta ρ ds) (h2 : Ed G tb ρ d) (hi : i ∉ slots om) (hj : j ∉ slots om) (hij : i ≠ j) (hl : i < ρ.length)
    (hN : N ((ρ.set i none).set j (some (.dat d))) ((i, ds) :: om)) : Em G (tAsg (tTup (tCons ta (tCons tb tNil))) (gTup G.K 2 (gCons (gName i) (gCons (gName j) gNil)))) ρ om R N := fun S0 Hb D hr hn σ H ⟨ls, s⟩ =>
  h1 _ σ H s.env _ fun p xs H1 hp e1 hx hd => by
    refine h2 (p :: (ls ++ S0)) σ H1 (s.env.view (s.newList (i := i) hp e1 hx hd hi hl).env.dom (vw_more e1 hp)) _ fun v H2 e2 r2 => ⟨(by show 2 ≤ sizeLine; decide), fun T hT => ⟨T, _, rfl, .inl (.inl upd_same), rfl, _, _, rfl, _, _, rfl, rfl, ?_⟩⟩
    have eT : Ex H2 (upd H2 T (.tup [.ref p, v])) := Ex.new hT
    have s2 := (s.newList (i := i) hp e1 hx hd hi hl).ex (e2.trans eT)
    exact hn _ _ _ _ hN ⟨p :: ls, s2.set (e := .dat d) (dp_mono (vw_mono eT) _ _ r2) (by simp only [slots, List.map_cons, List.mem_cons, not_or]; exact ⟨fun z => hij z.symm, hj⟩)⟩
section
variable {G : Gd} {ρ : Rho} {ta tb : TE} {t u : TT} {x : Ent} {om : Om} {s1 s2 : TS} {R : Ent → Prop} {N : Rho → Om → Prop}
theorem ev_orT (h1 : Ed G ta ρ (.bool true)) : Ed G (tOrV ta tb) ρ (.bool true) := ev_orV (b := true) h1 fun z => Bool.noConfusion z
theorem ev_orF {b : Bool} (h1 : Ed G ta ρ (.bool false)) (h2 : Ed G tb ρ (.bool b)) : Ed G (tOrV ta tb) ρ (.bool b) := ev_orV h1 fun _ => h2
theorem ev_andF (h1 : Ed G ta ρ (.bool false)) : Ed G (tAndV ta tb) ρ (.bool false) := ev_andV (b := true) h1 fun z => Bool.noConfusion z
theorem ev_andT {b : Bool} (h1 : Ed G ta ρ (.bool true)) (h2 : Ed G tb ρ (.bool b)) : Ed G (tAndV ta tb) ρ (.bool b) := ev_andV h1 fun _ => h2
theorem et_orT (h1 : Et G t ρ true) : Et G (tOr t u) ρ true := et_or (b := true) h1 fun z => Bool.noConfusion z
theorem et_orF {b : Bool} (h1 : Et G t ρ false) (h2 : Et G u ρ b) : Et G (tOr t u) ρ b := et_or h1 fun _ => h2
theorem et_andF (h1 : Et G t ρ false) : Et G (tAnd t u) ρ false := et_and (b := true) h1 fun z => Bool.noConfusion z
theorem et_andT {b : Bool} (h1 : Et G t ρ true) (h2 : Et G u ρ b) : Et G (tAnd t u) ρ b := et_and h1 fun _ => h2
theorem ev_ifT (h : Et G t ρ true) (h1 : Ev G ta ρ x) : Ev G (tIf t ta tb) ρ x := ev_if h (fun _ => h1) fun z => Bool.noConfusion z
theorem ev_ifF (h : Et G t ρ false) (h1 : Ev G tb ρ x) : Ev G (tIf t ta tb) ρ x := ev_if h (fun z => Bool.noConfusion z) fun _ => h1
theorem em_ifT (h : Et G t (shw ρ om) true) (h1 : Em G s1 ρ om R N) : Em G (tIfS t s1 s2) ρ om R N := em_if h (fun _ => h1) fun z => Bool.noConfusion z
theorem em_ifF (h : Et G t (shw ρ om) false) (h1 : Em G s2 ρ om R N) : Em G (tIfS t s1 s2) ρ om R N := em_if h (fun z => Bool.noConfusion z) fun _ => h1
theorem et_notT (h : Et G t ρ true) : Et G (tNot t) ρ false := et_not h
theorem et_notF (h : Et G t ρ false) : Et G (tNot t) ρ true := et_not h
/-- if .. : raise, never taken -/
theorem em_gate (h : Et G t (shw ρ om) false) (hN : N ρ om) : Em G (tIfS t s1 tNext) ρ om R N := em_ifF h (em_next hN)
theorem ev_isNb {b : Bool} (ha : Ev G ta ρ x) (hb : isN x = b := by rfl) : Ed G (tOp (fun x y H Q => y = .non ∧ Q (.bl (decide (x = .non))) H) ta (tC .non)) ρ (.bool b) := hb ▸ ev_isN ha
theorem ev_notNb {b : Bool} (ha : Ev G ta ρ x) (hb : (!isN x) = b := by rfl) : Ed G (tOp (fun x y H Q => y = .non ∧ Q (.bl (!decide (x = .non))) H) ta (tC .non)) ρ (.bool b) := hb ▸ ev_notN ha
theorem em_var {i : Nat} (h : (shw ρ om)[i]? = some (some x)) (hR : R x) : Em G (tRet (tVar i)) ρ om R N := em_ret (ev_var h) hR
end
/-- an expression as a statement -/
theorem em_drop {G : Gd} {ρ : Rho} {te : TE} {x : Ent} {om : Om} {R : Ent → Prop} {N : Rho → Om → Prop} (h : Ev G te (shw ρ om) x) (hN : N ρ om) : Em G (tDrop te) ρ om R N := fun S0 Hb D hr hn σ H ⟨ls, s⟩ => h S0 σ H s.shw _ fun v H' e r => hn _ _ _ _ hN ⟨ls, s.ex e⟩
end Ek
end

section
set_option Elab.async false
set_option linter.all false
set_option maxRecDepth 100000
set_option maxHeartbeats 4000000
namespace Ek
open PySem PySem.Spec PyProof.Rows L2 K18
open Evl (Ex ex_rd ex_l ex_t fresh_back sz_of sz_lt)
theorem flats_oi' : ∀ r : K18.Row, (r.map oi).all flatD = true
  | [] => rfl
  | o :: r => by rw [List.map_cons, List.all_cons, flats_oi' r]; cases o <;> rfl
theorem dpAll_of_get {K : PySem.W.Frag} {H : Hp} : ∀ {vs : List V} {ds : List PyData}, vs.length = ds.length → (∀ (t : Nat) v d, vs[t]? = some v → ds[t]? = some d → Dp K H v d) → DpAll K H vs ds
  | [], [], _, _ => .nil
  | v :: vs, d :: ds, hl, h => .cons (h 0 v d rfl rfl) (dpAll_of_get (by simpa using hl) fun t v d h1 h2 => h (t + 1) v d (by simpa using h1) (by simpa using h2))
theorem dpAll_set {K : PySem.W.Frag} {H : Hp} : ∀ {vs : List V} {ds : List PyData} (n : Nat) {v : V} {d : PyData}, DpAll K H vs ds → Dp K H v d → DpAll K H (vs.set n v) (ds.set n d)
  | _, _, _, _, _, .nil, _ => .nil
  | _, _, 0, _, _, .cons _ h, r => .cons r h
  | _, _, n + 1, _, _, .cons h1 h2, r => .cons h1 (dpAll_set n h2 r)
/-- x = [list(row) for row in m]; x[i][j] = e: the rows are new, so they may change -/
theorem em_rows {G : Gd} {ρ : Rho} {om : Om} {R : Ent → Prop} {N : Rho → Om → Prop} {tl te ti tj : TE} {u : TS} {r f i j n : Nat} {c : Mat} {v : OI} (hdd : G.dd = none) (sq : Sq n c) (hn : n ≤ 100) (hi : i < n) (hj : j < n) (hl : Ed G tl ρ (matD c)) (hf : f ∉ slots om) (hfl : f < ρ.length) (hrl' : r < ρ.length)
    (hrf : r ≠ f) (ho : ∀ k, k ∈ slots om → k ≠ r)
    (h1 : Ed G te (shw (ρ.set f none) ((f, c.map lrowD) :: om)) (oi v)) (h2 : Ed G ti (shw (ρ.set f none) ((f, c.map lrowD) :: om)) (.int (i : Int))) (h3 : Ed G tj (shw (ρ.set f none) ((f, c.map lrowD) :: om)) (.int (j : Int)))
    (hu : Em G u (ρ.set f none) ((f, (c.set i ((c.getD i []).set j v)).map lrowD) :: om) R N) :
    Em G (tSeq (tAsg (tLc (iTup G.K tl) (gName r) tYes (tCB (Kv.rListOf G.K) (tCons (tVar r) tNil)) [r]) (gName f)) (tSeq (tAsg te (gSub (tOp (rIxL G.K) (tVar f) ti) tj rSetL)) u)) ρ om R N := fun S0 Hb D hr hN σ H ⟨ls, s⟩ => by
  show tLc (iTup G.K tl) (gName r) tYes (tCB (Kv.rListOf G.K) (tCons (tVar r) tNil)) [r] σ H (fun x H1 => gName f x σ H1 fun σ' H' => tSeq (tAsg te (gSub (tOp (rIxL G.K) (tVar f) ti) tj rSetL)) u D σ' H')
  refine sr_tup (ds := c.map rowD) hl (ls ++ S0) σ H s.env _ ?_
  rintro J H1 e1 ⟨Gu, Y, w, hG, hY⟩ Dl hD
  have s1 := s.ex e1
  have E1 := s1.env
  have dm1 := E1.dom
  have nD : Dl ∉ ls ++ S0 := dm1.new hD
  have view : ∀ {H2 : Hp}, Ex H1 H2 → Ex (vw (ls ++ S0) H1) (vw (Dl :: (ls ++ S0)) H2) := fun e => vw_more e hD
  have hlen : ((c.map rowD).map Ent.dat).length = n := by rw [List.length_map, List.length_map]; exact sq.len
  have rowk : ∀ t, t < n → (c.getD t []).length = n := fun t ht => Sq.rowlen sq ht
  refine lc_it w (fun k H2 => Ex H1 H2 ∧ ∃ qs : List Addr, H2 Dl = some (.lst (qs.map V.ref)) ∧ qs.length = k ∧ qs.Nodup ∧ (∀ q ∈ qs, H1 q = none ∧ q ≠ Dl) ∧ ∀ t q, qs[t]? = some q → ∃ xs, H2 q = some (.lst xs) ∧ DpAll G.K (fun _ => none) xs ((c.getD t []).map oi))
    ⟨Ex.new hD, [], upd_same, rfl, List.nodup_nil, by simp, fun t q h => by simp at h⟩ (fun k H2 _ h => hG H2 ((view h.1).trans vw_le)) ?_ ?_
  · rintro k x H2 H3 hk ⟨e2, qs, hD2, hlq, ndq, newq, rowq⟩ hy
    have dm2 : Dom (Dl :: (ls ++ S0)) H2 := fun a ha => by
      rcases List.mem_cons.mp ha with rfl | ha
      · rw [hD2]
        exact fun z => by cases z
      · exact dm1.mono e2 a ha
    obtain ⟨e3, bk3, e, hx, rep⟩ := hY k H2 x H3 hk ((view e2).trans vw_le) hy
    have rp := rep (Dl :: (ls ++ S0)) dm2 (view e2)
    rw [hlen] at hk
    have ee : e = .dat (rowD (c.getD k [])) := by
      rw [List.getElem?_map, List.getElem?_map, List.getElem?_eq_getElem (by rw [sq.len]; exact hk)] at hx
      rw [List.getD_eq_getElem?_getD, List.getElem?_eq_getElem (by rw [sq.len]; exact hk)]
      exact (Option.some.inj hx).symm
    subst ee
    obtain ⟨a, xs, rfl, hs, hd⟩ := tup_of rp
    have hl1 : (L2.wipe σ [r]).length = σ.length := wipe_length _ _
    refine ⟨?_, ?_⟩
    · exact (wipe_same (τ := L2.wipe σ [r]) (by rw [List.length_set]) fun t ht => by rw [List.getElem?_set_ne fun q => ht (by simp [q])]).trans (wipe_wipe σ [r])
    show tCB (Kv.rListOf G.K) (tCons (tVar r) tNil) _ H3 _
    have hrl : r < σ.length := by rw [s.env.len]; exact hrl'
    · refine ⟨.ref a, List.getElem?_set_self (by rw [hl1]; exact hrl), a, xs, rfl, .inr hs, fun l hl0 => ?_⟩
      have eD3 : H3 Dl = some (.lst (qs.map V.ref)) := e3 _ _ hD2
      have lD : l ≠ Dl := fun q => by rw [q, eD3] at hl0; cases hl0
      have eD : upd H3 l (.lst xs) Dl = some (.lst (qs.map V.ref)) := by rw [upd_ne fun q => lD q.symm]; exact eD3
      have el : Ex H3 (upd H3 l (.lst xs)) := Ex.new hl0
      have nl : H1 l = none := fresh_back (e2.trans e3) hl0
      refine ⟨qs.map V.ref, eD, by rw [List.length_map, hlq]; exact sz_lt (by omega), Evl.Ex.mut ((e2.trans e3).trans el) hD, qs ++ [l], by rw [upd_same, List.map_append]; rfl, by rw [List.length_append, hlq]; rfl, ?_, ?_, ?_⟩
      · rw [List.nodup_append]
        refine ⟨ndq, by simp, fun q hq q' hq' => ?_⟩
        have : q' = l := by simpa using hq'
        subst this
        intro z
        subst z
        obtain ⟨t, ht⟩ := List.getElem?_of_mem hq
        obtain ⟨ys, hy1, _⟩ := rowq t q ht
        rw [e3 _ _ hy1] at hl0
        cases hl0
      · intro q hq
        rcases List.mem_append.mp hq with hq | hq
        · exact newq q hq
        · have : q = l := by simpa using hq
          subst this
          exact ⟨nl, lD⟩
      · intro t q ht
        by_cases htk : t < qs.length
        · rw [List.getElem?_append_left htk] at ht
          obtain ⟨ys, hy1, hy2⟩ := rowq t q ht
          refine ⟨ys, ?_, hy2⟩
          rw [upd_ne (newq q (List.mem_of_getElem? ht)).2]
          exact el _ _ (e3 _ _ hy1)
        · rw [List.getElem?_append_right (by omega)] at ht
          have ht0 : t = qs.length := by
            have := (List.getElem?_eq_some_iff.mp ht).1
            simp at this
            omega
          subst ht0
          have : q = l := by simpa using ht.symm
          subst this
          refine ⟨xs, by rw [upd_ne lD, upd_same], ?_⟩
          rw [hlq]
          exact flats_dp (flats_oi' _) hd
  · rintro H2 ⟨e2, qs, hD2, hlq, ndq, newq, rowq⟩
    rw [hlen] at hlq
    have qn : ∀ q, q ∈ qs → q ∉ Dl :: (ls ++ S0) := fun q hq z => by
      rcases List.mem_cons.mp z with z | z
      · exact (newq q hq).2 z
      · exact dm1.new (newq q hq).1 z
    -- the rows as they are seen at a later heap
    have rows : ∀ (H' : Hp) (c' : Mat), c'.length = n → (∀ t q, qs[t]? = some q → ∃ xs, H' q = some (.lst xs) ∧ DpAll G.K (fun _ => none) xs ((c'.getD t []).map oi)) → DpAll G.K (vw (Dl :: (ls ++ S0)) H') (qs.map V.ref) (c'.map lrowD) := fun H' c' hc' h => by
      refine dpAll_of_get (by rw [List.length_map, List.length_map, hlq, hc']) fun t x d h1 h2 => ?_
      rw [List.getElem?_map] at h1 h2
      cases q1 : qs[t]? with
      | none => rw [q1] at h1; cases h1
      | some q =>
        cases q2 : c'[t]? with
        | none => rw [q2] at h2; cases h2
        | some r' =>
          rw [q1] at h1
          rw [q2] at h2
          have e1 : V.ref q = x := Option.some.inj h1
          have e2 : lrowD r' = d := Option.some.inj h2
          subst e1
          subst e2
          obtain ⟨xs, k1, k2⟩ := h t q q1
          rw [List.getD_eq_getElem?_getD, q2] at k2
          exact .lst (.inl (.inl (by rw [vw_out (qn q (List.mem_of_getElem? q1))]; exact k1))) (flats_dp (flats_oi' _) k2)
    have s2 : Sta G S0 Hb (σ.set f (some (.ref Dl))) H2 (ρ.set f none) ((f, c.map lrowD) :: om) (Dl :: ls) := s1.newList hD e2 hD2 (rows H2 c sq.len rowq) hf hfl
    show tSeq (tAsg te (gSub (tOp (rIxL G.K) (tVar f) ti) tj rSetL)) u D (σ.set f (some (.ref Dl))) H2
    refine h1 S0 _ H2 s2.shw _ fun x H3 e3 r3 => ?_
    have s3 := s2.ex e3
    have fv : (σ.set f (some (V.ref Dl)))[f]? = some (some (.ref Dl)) := List.getElem?_set_self (by rw [s.env.len]; exact hfl)
    refine ⟨.ref Dl, fv, h2 S0 _ H3 s3.shw _ fun y H4 e4 r4 => ?_⟩
    cases dp_int r4
    have s4 := s3.ex e4
    have e24 := e3.trans e4
    have hD4 : H4 Dl = some (.lst (qs.map V.ref)) := e24 _ _ hD2
    obtain ⟨qi, hqi⟩ : ∃ q, qs[i]? = some q := ⟨_, List.getElem?_eq_getElem (by omega)⟩
    refine ⟨Dl, qs.map V.ref, i, .ref qi, rfl, rfl, .inl (.inl hD4), atI_nat (by rw [List.getElem?_map, hqi]; rfl), ?_⟩
    refine h3 S0 _ H4 s4.shw _ fun z H5 e5 r5 => ?_
    cases dp_int r5
    have e25 := e24.trans e5
    obtain ⟨xs, hx1, hx2⟩ := rowq i qi hqi
    have hxl : xs.length = n := by rw [dpAll_len hx2, List.length_map, rowk i hi]
    refine ⟨qi, xs, j, j, rfl, rfl, e25 _ _ hx1, ?_, ?_⟩
    · unfold ixN
      rw [if_pos (by omega), if_pos (by omega), Int.toNat_natCast]
    have nqi := (newq qi (List.mem_of_getElem? hqi))
    have e15 : Ex H1 H5 := e2.trans e25
    have e1' : Ex H1 (upd H5 qi (.lst (xs.set j x))) := Evl.Ex.mut e15 nqi.1
    have s6 : Sta G S0 Hb (σ.set f (some (.ref Dl))) (upd H5 qi (.lst (xs.set j x))) (ρ.set f none) ((f, (c.set i ((c.getD i []).set j v)).map lrowD) :: om) (Dl :: ls) := by
      refine s1.newList hD e1' (by rw [upd_ne (fun q => nqi.2 q.symm)]; exact e25 _ _ hD2) (rows _ _ (by rw [List.length_set]; exact sq.len) fun t q ht => ?_) hf hfl
      by_cases hq : q = qi
      · subst hq
        have ti : t = i := nd_ix ndq ht hqi
        subst ti
        refine ⟨xs.set j x, upd_same, ?_⟩
        have eg : (c.set t ((c.getD t []).set j v)).getD t [] = (c.getD t []).set j v := by
          rw [List.getD_eq_getElem?_getD, List.getElem?_set_self (by rw [sq.len]; exact hi)]
          rfl
        rw [eg, List.map_set]
        refine dpAll_set j hx2 ?_
        cases v with
        | none => cases dp_none r3; exact .non
        | some k => cases dp_int r3; exact .int k
      · obtain ⟨ys, hy1, hy2⟩ := rowq t q ht
        refine ⟨ys, by rw [upd_ne hq]; exact e25 _ _ hy1, ?_⟩
        have ne : t ≠ i := fun z => hq (by rw [z, hqi] at ht; exact (Option.some.inj ht).symm)
        have eg : (c.set i ((c.getD i []).set j v)).getD t [] = c.getD t [] := by
          rw [List.getD_eq_getElem?_getD, List.getElem?_set_ne (fun z => ne z.symm), ← List.getD_eq_getElem?_getD]
        rw [eg]
        exact hy2
    exact hu S0 Hb D hr hN _ _ ⟨Dl :: ls, s6⟩
end Ek
end

section
set_option Elab.async false
set_option linter.all false
set_option maxRecDepth 100000
set_option maxHeartbeats 4000000
namespace Ek
open PySem PySem.Spec PyProof.Rows L2 K18
open Evl (Ex ex_rd ex_l ex_t fresh_back sz_of sz_lt)
section
variable {G : Gd} {ρ ρ1 : Rho} {om om1 : Om} {ta tb te tl : TE} {t u : TS} {tt : TT} {x y : Ent} {d : PyData} {R : Ent → Prop} {N N1 : Rho → Om → Prop} {S0 : List Addr} {Hb : Hp} {σ : L2.St} {H : Hp}
/-- the first own list is given up: it is data from now on -/
theorem Sta.free {l : Addr} {ls : List Addr} {j : Nat} {ds : List PyData} (s : Sta G S0 Hb σ H ρ ((j, ds) :: om) (l :: ls)) : Sta G S0 Hb σ H ρ om ls ∧ σ[j]? = some (some (.ref l)) ∧ Dp G.K (vw (ls ++ S0) H) (.ref l) (.list ds) := by
  obtain ⟨l', xs, h1, h2, h3, h4⟩ := s.own 0 j ds rfl
  have e : l = l' := Option.some.inj h1
  subst e
  have nd := List.nodup_cons.mp s.nd
  have sub : ∀ a, a ∈ ls ++ S0 → a ∈ (l :: ls) ++ S0 := fun a ha => List.mem_cons_of_mem _ ha
  have up : Ex (vw ((l :: ls) ++ S0) H) (vw (ls ++ S0) H) := vw_sub sub
  have nl : l ∉ ls ++ S0 := fun z => by
    rcases List.mem_append.mp z with z | z
    · exact nd.1 z
    · exact (s.new l List.mem_cons_self).2 z
  refine ⟨⟨s.env.view (fun a ha => s.env.dom a (sub a ha)) up, s.base, fun a ha => s.new a (List.mem_cons_of_mem _ ha), nd.2, by simpa using s.len, fun k i es hk => ?_, s.dice⟩, h2, .lst (.inl (.inl (by rw [vw_out nl]; exact h3))) (dpAll_mono up _ _ h4)⟩
  obtain ⟨l', ys, q1, q2, q3, q4⟩ := s.own (k + 1) i es (by simpa using hk)
  exact ⟨l', ys, by simpa using q1, q2, q3, dpAll_mono up _ _ q4⟩
/-- x = y, y the youngest own list, given up -/
theorem em_free {i j : Nat} {ds : List PyData} (hi : i ∉ slots om) (hN : N (ρ.set i (some (.dat (.list ds)))) om) : Em G (tAsg (tVar j) (gName i)) ρ ((j, ds) :: om) R N := fun S0 Hb D hr hn σ H ⟨ls, s⟩ => by
  obtain ⟨l, ls, rfl⟩ : ∃ l lr, ls = l :: lr := by
    cases ls with
    | nil => have := s.len; simp at this
    | cons l lr => exact ⟨l, lr, rfl⟩
  obtain ⟨s', h1, h2⟩ := s.free
  exact ⟨_, h1, hn _ _ _ _ hN ⟨ls, s'.set (e := .dat (.list ds)) h2 hi⟩⟩
theorem em_parLD {i j : Nat} {ds : List PyData} (h1 : El G ta ρ ds) (h2 : Ev G tb ρ y) (hi : i ∉ slots om) (hj : j ∉ slots om) (hij : i ≠ j) (hl : i < ρ.length) (hN : N ((ρ.set i none).set j (some y)) ((i, ds) :: om)) :
    Em G (tPar i j (tCons ta (tCons tb tNil))) ρ om R N := fun S0 Hb D hr hn σ H ⟨ls, s⟩ =>
  h1 _ σ H s.env _ fun p xs H1 hp e1 hx hd => by
    have s1 := s.newList (i := i) hp e1 hx hd hi hl
    refine h2 (p :: (ls ++ S0)) σ H1 (s.env.view s1.env.dom (vw_more e1 hp)) _ fun v H2 e2 r2 => ⟨.ref p, v, rfl, hn _ _ _ _ hN ⟨p :: ls, (s1.ex e2).set r2 (by simp only [slots, List.map_cons, List.mem_cons, not_or]; exact ⟨fun z => hij z.symm, hj⟩)⟩⟩
/-- what leans on no list is seen without them -/
theorem tup_up {ls : List Addr} (s : Sta G S0 Hb σ H ρ om ls) {v : V} {ds : List PyData} (hf : ds.all flatD = true) (r : Dp G.K (vw S0 H) v (.tuple ds)) : Dp G.K (vw (ls ++ S0) H) v (.tuple ds) := by
  obtain ⟨a, xs, rfl, hs, hd⟩ := dp_tup r
  have nl : ∀ (o : HO), vw S0 H a = some o → (∀ ys, o ≠ .lst ys) → vw (ls ++ S0) H a = some o := fun o ho no => by
    obtain ⟨k1, k2⟩ := vw_some ho
    rw [vw_out]
    · exact k2
    · intro z
      rcases List.mem_append.mp z with z | z
      · obtain ⟨k, hk⟩ := List.getElem?_of_mem z
        have hlt : k < om.length := by rw [← s.len]; exact (List.getElem?_eq_some_iff.mp hk).1
        obtain ⟨l', ys, q1, _, q3, _⟩ := s.own k om[k].1 om[k].2 (List.getElem?_eq_getElem hlt)
        rw [hk] at q1
        cases q1
        rw [k2] at q3
        exact no ys (Option.some.inj q3)
      · exact k1 z
  refine .tup ?_ (flats_dp hf hd)
  rcases hs with (h | ⟨o, h⟩) | h
  · exact .inl (.inl (nl _ h fun ys z => by cases z))
  · exact .inl (.inr ⟨o, nl _ h fun ys z => by cases z⟩)
  · exact .inr h
/-- x.append((..)), the tuple made of flat things out of one's own lists -/
theorem em_appendT {k i : Nat} {ds es : List PyData} (hk : om[k]? = some (i, ds)) (h : Ed G te (shw ρ om) (.tuple es)) (hf : es.all flatD = true) (hz : ds.length < 100000) (hN : N ρ (om.set k (i, ds ++ [.tuple es]))) :
    Em G (tDrop (tBM G.K "list" rAppend (tVar i) (tCons te tNil))) ρ om R N := fun S0 Hb D hr hn σ H ⟨ls, s⟩ => by
  obtain ⟨l, xs, h1, h2, h3, h4⟩ := s.own k i ds hk
  refine ⟨_, h2, .inl ⟨rfl, xs, .inl (.inl h3)⟩, h _ σ H s.shw _ fun v H' e r => ?_⟩
  have s' := s.ex e
  refine ⟨l, xs, v, rfl, rfl, e _ _ h3, by rw [dpAll_len h4]; exact sz_lt hz, hn _ _ _ _ hN ⟨ls, s'.upd hk h1 (dpAll_append (dpAll_mono (vw_mono e) _ _ h4) (.cons (tup_up s' hf r) .nil))⟩⟩
/-- the youngest own list is given up behind it -/
theorem em_post {N' : Rho → Om → Prop} (h : Em G t ρ om R N') (hp : ∀ ρ om, N' ρ om → ∃ j ds om', om = (j, ds) :: om' ∧ N ρ om') : Em G t ρ om R N := fun S0 Hb D hr hn σ H s => h S0 Hb D hr (fun ρ2 om2 σ2 H2 n2 ⟨ls, s2⟩ => by
  obtain ⟨j, ds, om', rfl, n3⟩ := hp ρ2 om2 n2
  obtain ⟨l, ls, rfl⟩ : ∃ l lr, ls = l :: lr := by
    cases ls with
    | nil => have := s2.len; simp at this
    | cons l lr => exact ⟨l, lr, rfl⟩
  exact hn _ _ _ _ n3 ⟨ls, s2.free.1⟩) σ H s
/-- the own list at the end of the row is given up, as a def hands on -/
theorem em_forget {j : Nat} {ds : List PyData} (h : Em G t ρ om R N) : Em G t ρ ((j, ds) :: om) R N := fun S0 Hb D hr hn σ H ⟨ls, s⟩ => by
  obtain ⟨l, ls, rfl⟩ : ∃ l lr, ls = l :: lr := by
    cases ls with
    | nil => have := s.len; simp at this
    | cons l lr => exact ⟨l, lr, rfl⟩
  exact h S0 Hb D hr hn σ H ⟨ls, s.free.1⟩
end
section
variable {G : Gd} {ρ : Rho} {tl : TE} {tr : TA}
theorem sr_zipM {α β : Type} {l : List α} {k : List β} {f : α → PyData} {g : β → PyData} (h : Ea G tr ρ [.dat (.tuple (l.map f)), .dat (.tuple (k.map g))]) : Sr G (RZ.iZipA G.K tr) ρ ((l.zip k).map fun p => .dat (.tuple [f p.1, g p.2])) := by
  have := sr_zip h
  rw [List.zip_map, List.map_map, List.map_map] at this
  exact this
theorem zipIdx_range {α : Type} (l : List α) (d : α) : l.zipIdx = (List.range l.length).map fun i => (l.getD i d, i) := by
  refine List.ext_getElem? fun i => ?_
  rw [List.getElem?_zipIdx, List.getElem?_map]
  by_cases hi : i < l.length
  · rw [List.getElem?_range hi, List.getElem?_eq_getElem hi]
    show some (l[i], 0 + i) = some (l.getD i d, i)
    rw [List.getD_eq_getElem?_getD, List.getElem?_eq_getElem hi, Nat.zero_add]
    rfl
  · rw [List.getElem?_eq_none (by omega), List.getElem?_eq_none (by rw [List.length_range]; omega)]
    rfl
theorem sr_enumM {α : Type} {l : List α} {f : α → PyData} (d : α) (h : Ea G tr ρ [.dat (.tuple (l.map f))]) : Sr G (Enu.iEnumT G.K tr) ρ ((List.range l.length).map fun (i : Nat) => .dat (.tuple [.int (i : Int), f (l.getD i d)])) := by
  have := sr_enum h
  rw [zipIdx_range (l.map f) (f d), List.length_map, List.map_map, List.map_map] at this
  have e : ((List.range l.length).map fun (i : Nat) => Ent.dat (.tuple [.int (i : Int), f (l.getD i d)])) = (List.range l.length).map ((Ent.dat ∘ fun p : PyData × Nat => PyData.tuple [.int ((p.2 : Nat) : Int), p.1]) ∘ fun i => ((l.map f).getD i (f d), i)) := by
    refine List.map_congr_left fun i hi => ?_
    have hi := List.mem_range.mp hi
    show _ = Ent.dat (.tuple [.int (i : Int), (l.map f).getD i (f d)])
    rw [List.getD_eq_getElem?_getD, List.getD_eq_getElem?_getD, List.getElem?_map, List.getElem?_eq_getElem hi]
    rfl
  rw [e]
  exact this
end
theorem cut_tail (ds : List PyData) : (ds.drop (HT.sIx ds.length 0 (some 1))).take (HT.sIx ds.length ds.length none - HT.sIx ds.length 0 (some 1)) = ds.drop 1 := by
  cases ds with
  | nil => rfl
  | cons d r =>
    have e1 : HT.sIx (d :: r).length 0 (some 1) = 1 := by
      have := HT.sIx_nat (d :: r).length 0 1
      rw [Nat.min_eq_left (by simp)] at this
      exact this
    rw [e1]
    exact List.take_of_length_le (by rw [HT.sIx_none]; simp)
theorem cut_one (ds : List PyData) : (ds.drop (HT.sIx ds.length 0 none)).take (HT.sIx ds.length ds.length (some 1) - HT.sIx ds.length 0 none) = ds.take 1 := by
  have e1 : HT.sIx ds.length ds.length (some 1) = min 1 ds.length := HT.sIx_nat ds.length ds.length 1
  rw [e1]
  show (ds.drop 0).take (min 1 ds.length - 0) = _
  cases ds with
  | nil => rfl
  | cons d r => simp
theorem atI_last' {α : Type} {l : List α} {x : α} (h : l.getLast? = some x) : atI l (-1) = some x := by
  cases l with
  | nil => cases h
  | cons a r =>
    have hx : (a :: r)[r.length]? = some x := by
      rw [List.getLast?_eq_getElem?] at h
      simpa using h
    unfold atI
    have e : ixN (a :: r).length (-1) = some r.length := by
      unfold ixN
      rw [if_neg (by decide), if_pos (by rw [List.length_cons]; omega)]
      congr 1
      rw [List.length_cons]
      omega
    rw [e]
    exact hx
end Ek
end

section
set_option Elab.async false
set_option linter.all false
set_option maxRecDepth 100000
set_option maxHeartbeats 4000000
namespace Ek
open PySem PySem.Spec PyProof.Rows L2 K18
open Evl (Ex ex_rd ex_l ex_t fresh_back sz_of sz_lt)
/-! ### data that may be compared; equality -/
def Smd (k : Nat) (d : PyData) : Prop := d.canLay0 = true ∧ d.depth ≤ k
theorem smd_int {k : Nat} (i : Int) : Smd k (.int i) := ⟨rfl, by simp [PyData.depth]⟩
theorem smd_non {k : Nat} : Smd k .none := ⟨rfl, by simp [PyData.depth]⟩
theorem smd_oi {k : Nat} (o : OI) : Smd k (oi o) := by cases o with
  | none => exact smd_non
  | some i => exact smd_int i
theorem smd_all {k : Nat} : ∀ {ds : List PyData}, (∀ x ∈ ds, Smd k x) → PyData.canLayAll0 ds = true ∧ PyData.depthAll ds ≤ k
  | [], _ => ⟨rfl, by simp [PyData.depthAll]⟩
  | d :: ds, h => by
    obtain ⟨h1, h2⟩ := h d List.mem_cons_self
    obtain ⟨h3, h4⟩ := smd_all (ds := ds) fun x hx => h x (List.mem_cons_of_mem _ hx)
    refine ⟨by rw [PyData.canLayAll0, h1, h3]; rfl, ?_⟩
    rw [PyData.depthAll]
    omega
theorem smd_tup {k : Nat} {ds : List PyData} (h : ∀ x ∈ ds, Smd k x) : Smd (k + 1) (.tuple ds) := by
  obtain ⟨h1, h2⟩ := smd_all h
  refine ⟨by rw [PyData.canLay0]; exact h1, ?_⟩
  rw [PyData.depth]
  omega
theorem smd_lst {k : Nat} {ds : List PyData} (h : ∀ x ∈ ds, Smd k x) : Smd (k + 1) (.list ds) := by
  obtain ⟨h1, h2⟩ := smd_all h
  refine ⟨by rw [PyData.canLay0]; exact h1, ?_⟩
  rw [PyData.depth]
  omega
theorem Smd.shaped {k : Nat} {d : PyData} (h : Smd k d) (hk : k ≤ 64 := by decide) : SeqAt.shaped d = true := by
  show (d.canLay0 && decide (d.depth ≤ 64)) = true
  rw [h.1, decide_eq_true (show d.depth ≤ 64 from Nat.le_trans h.2 hk)]
  rfl
theorem smd_row {k : Nat} (r : K18.Row) : Smd (k + 1) (rowD r) := smd_tup fun x hx => by
  obtain ⟨o, _, rfl⟩ := List.mem_map.mp hx
  exact smd_oi o
theorem smd_mat {k : Nat} (m : Mat) : Smd (k + 2) (matD m) := smd_tup fun x hx => by
  obtain ⟨o, _, rfl⟩ := List.mem_map.mp hx
  exact smd_row o
theorem smd_cl {k : Nat} : ∀ c : Option Mat, Smd (k + 2) (clD c)
  | none => smd_non
  | some m => smd_mat m
theorem smd_rd {k : Nat} (l : List (Int × Int)) : Smd (k + 2) (rdD l) := smd_tup fun x hx => by
  obtain ⟨o, _, rfl⟩ := List.mem_map.mp hx
  refine smd_tup fun x hx => ?_
  rcases List.mem_cons.mp hx with rfl | hx
  · exact smd_int _
  · rcases List.mem_cons.mp hx with rfl | hx
    · exact smd_int _
    · cases hx
mutual
def noB : PyData → Bool
  | .none => true
  | .int _ => true
  | .list ds => noBs ds
  | .tuple ds => noBs ds
  | _ => false
def noBs : List PyData → Bool
  | [] => true
  | d :: ds => noB d && noBs ds
end
mutual
theorem eqv_iff : ∀ d e : PyData, noB d = true → noB e = true → (PyData.eqv d e = true ↔ d = e)
  | .none, .none, _, _ => by simp [PyData.eqv]
  | .none, .int _, _, _ => by simp [PyData.eqv]
  | .none, .list _, _, _ => by simp [PyData.eqv]
  | .none, .tuple _, _, _ => by simp [PyData.eqv]
  | .int _, .none, _, _ => by simp [PyData.eqv]
  | .int _, .int _, _, _ => by simp [PyData.eqv]
  | .int _, .list _, _, _ => by simp [PyData.eqv]
  | .int _, .tuple _, _, _ => by simp [PyData.eqv]
  | .list _, .none, _, _ => by simp [PyData.eqv]
  | .list _, .int _, _, _ => by simp [PyData.eqv]
  | .list xs, .list ys, h, k => by
    have := eqvs_iff xs ys (by simpa [noB] using h) (by simpa [noB] using k)
    rw [PyData.eqv, this]
    simp
  | .list _, .tuple _, _, _ => by simp [PyData.eqv]
  | .tuple _, .none, _, _ => by simp [PyData.eqv]
  | .tuple _, .int _, _, _ => by simp [PyData.eqv]
  | .tuple _, .list _, _, _ => by simp [PyData.eqv]
  | .tuple xs, .tuple ys, h, k => by
    have := eqvs_iff xs ys (by simpa [noB] using h) (by simpa [noB] using k)
    rw [PyData.eqv, this]
    simp
  | .bool _, _, h, _ => by simp [noB] at h
  | .str _, _, h, _ => by simp [noB] at h
  | .dict _, _, h, _ => by simp [noB] at h
  | _, .bool _, _, h => by simp [noB] at h
  | _, .str _, _, h => by simp [noB] at h
  | _, .dict _, _, h => by simp [noB] at h
theorem eqvs_iff : ∀ xs ys : List PyData, noBs xs = true → noBs ys = true → (PyData.eqvAll xs ys = true ↔ xs = ys)
  | [], [], _, _ => by simp [PyData.eqvAll]
  | [], _ :: _, _, _ => by simp [PyData.eqvAll]
  | _ :: _, [], _, _ => by simp [PyData.eqvAll]
  | x :: xs, y :: ys, h, k => by
    simp only [noBs, Bool.and_eq_true] at h k
    have h1 := eqv_iff x y h.1 k.1
    have h2 := eqvs_iff xs ys h.2 k.2
    rw [PyData.eqvAll, Bool.and_eq_true, h1, h2]
    simp
end
theorem noBs_map {α : Type} {f : α → PyData} (h : ∀ a, noB (f a) = true) : ∀ l : List α, noBs (l.map f) = true
  | [] => rfl
  | a :: l => by rw [List.map_cons, noBs, h a, noBs_map h l]; rfl
theorem noB_oi (o : OI) : noB (oi o) = true := by cases o <;> rfl
theorem noB_row (r : K18.Row) : noB (rowD r) = true := by rw [rowD, noB]; exact noBs_map noB_oi r
theorem noB_mat (m : Mat) : noB (matD m) = true := by rw [matD, noB]; exact noBs_map noB_row m
theorem noB_cl : ∀ c : Option Mat, noB (clD c) = true
  | none => rfl
  | some m => noB_mat m
theorem noB_rd (l : List (Int × Int)) : noB (rdD l) = true := by rw [rdD, noB]; exact noBs_map (fun _ => rfl) l
theorem map_inj {α β : Type} {f : α → β} (h : ∀ a b, f a = f b → a = b) : ∀ {l m : List α}, l.map f = m.map f → l = m
  | [], [], _ => rfl
  | [], _ :: _, e => by simp at e
  | _ :: _, [], e => by simp at e
  | a :: l, b :: m, e => by
    rw [List.map_cons, List.map_cons, List.cons.injEq] at e
    rw [h a b e.1, map_inj h e.2]
theorem oi_inj (a b : OI) (h : oi a = oi b) : a = b := by
  cases a <;> cases b <;> simp [oi] at h ⊢
  exact h
theorem rowD_inj (a b : K18.Row) (h : rowD a = rowD b) : a = b := map_inj oi_inj (by simpa [rowD] using h)
theorem matD_inj (a b : Mat) (h : matD a = matD b) : a = b := map_inj rowD_inj (by simpa [matD] using h)
theorem clD_inj : ∀ a b : Option Mat, clD a = clD b → a = b
  | none, none, _ => rfl
  | none, some _, h => by simp [clD, matD] at h
  | some _, none, h => by simp [clD, matD] at h
  | some a, some b, h => by rw [matD_inj a b h]
theorem frD_inj (p q : Int × Int) (h : frD p = frD q) : p = q := by
  obtain ⟨a, b⟩ := p
  obtain ⟨c, d⟩ := q
  simpa [frD] using h
theorem rdD_inj (a b : List (Int × Int)) (h : rdD a = rdD b) : a = b := map_inj frD_inj (by simpa [rdD] using h)
theorem eqv_cl (a b : Option Mat) : PyData.eqv (clD a) (clD b) = decide (a = b) := by
  rw [Bool.eq_iff_iff, eqv_iff _ _ (noB_cl a) (noB_cl b), decide_eq_true_eq]
  exact ⟨clD_inj a b, fun h => by rw [h]⟩
theorem eqv_rd (a b : List (Int × Int)) : PyData.eqv (rdD a) (rdD b) = decide (a = b) := by
  rw [Bool.eq_iff_iff, eqv_iff _ _ (noB_rd a) (noB_rd b), decide_eq_true_eq]
  exact ⟨rdD_inj a b, fun h => by rw [h]⟩
theorem shaped_ints (l : List Int) : SeqAt.shaped (.list (l.map .int)) = true := (smd_lst (k := 0) fun x hx => by
  obtain ⟨o, _, rfl⟩ := List.mem_map.mp hx
  exact smd_int o).shaped
end Ek
end

section
set_option Elab.async false
set_option linter.all false
set_option maxRecDepth 100000
set_option maxHeartbeats 4000000
namespace Ek
open PySem PySem.Spec PyProof.Rows L2 K18
open Evl (Ex ex_rd ex_l ex_t fresh_back sz_of sz_lt)
/-! ### o.f as a target, o with slots -/
def gSl (K : PySem.W.Frag) (ta : TE) (f : Str) : TG := fun y σ H Q => ta σ H fun x H2 => ∃ a C dx p vs i, x = .ref a ∧ SlX.Slt H2 a C dx vs ∧ SlX.SCls K C ∧ SlX.Slot1 K C f p i ∧ Q σ (SlX.slH H2 a C dx (SlX.putS i y vs))
theorem pg_slotK {X : Cx} {o : Expr} {f : Str} {ta : TE} {pos : Pos} (K : PySem.W.Frag) (ha : PE X o ta) (h : X.K = K := by rfl) : PG X (.Attribute o f pos) (gSl K ta f) := by
  subst h
  refine ⟨fun pins s σ H v u Q I r hq => ?_⟩
  refine PySem.W.kas_attr (thn (ha.run pins s σ H _ I hq) fun ov s2 ⟨x, H2, I2, rx, a, C, dx, p, vs, i, ex, hsl, c, t, q2⟩ => ?_)
  subst ex
  obtain rfl : ov = Value.ref a := rx
  exact SlX.setslot_ok I2 hsl c t r fun s3 I3 => ⟨σ, _, I3, q2⟩
theorem call_isiSlK {X : Cx} (K : PySem.W.Frag) (u : Value) (h : X.K = K := by rfl) : CallR X (.builtin "isinstance") (SlX.rIsiSl K u) := by subst h; exact SlX.call_isiSl u
/-! ### what of the text the two classes have -/
structure Zo (G : Gd) (mg : Str → Option Value) : Prop where
  c : SlX.SCls G.K G.Z
  b : SlX.SCls G.K G.B
  s0 : ∃ p, SlX.Slot1 G.K G.Z "own_clocks" p 0
  s1 : ∃ p, SlX.Slot1 G.K G.Z "own_closed" p 1
  s2 : ∃ p, SlX.Slot1 G.K G.Z "own_told" p 2
  s3 : ∃ p, SlX.Slot1 G.K G.Z "own_unit" p 3
  r0 : ∃ p, SlX.Slot1 G.K G.B "own_rows" p 0
  iz : SlX.SIsi G.K G.Z
  ib : SlX.SIsi G.K G.B
  gz : mg "Zone" = some (.ref G.Z)
  gb : mg "KnownBounds" = some (.ref G.B)
  kzz : PySem.W.kitOne G.K (.ref G.Z) (.ref G.Z) = some true
  kbb : PySem.W.kitOne G.K (.ref G.B) (.ref G.B) = some true
  ktb : PySem.W.kitOne G.K (.type "tuple") (.ref G.B) = some false
  nf : PySem.W.notFirst G.K G.Z (.ref G.Z) = true
section
variable {G : Gd} {mg : Str → Option Value} {ρ : Rho} {ta tb : TE} {t : TA} {c u : Int} {m : Mat} {es : List Ent} {y : Ent} {R : List Ent → Ent → Prop} {n : Nat}
theorem ev_slot {x : Ent} {f : Str} {d : PyData} (h : Ev G ta ρ x) (k : ∀ H v, Rep G H v x → ∃ a C dx p vs i w, v = .ref a ∧ SlX.Slt H a C dx vs ∧ SlX.SCls G.K C ∧ SlX.Slot1 G.K C f p i ∧ vs[i]? = some (some w) ∧ Dp G.K H w d) : Ed G (SlX.tSl G.K ta f) ρ d := fun S σ H E Q q => h S σ H E _ fun v H1 e1 r1 => by
  obtain ⟨a, C, dx, p, vs, i, w, h1, h2, h3, h4, h5, h6⟩ := k _ v r1
  exact ⟨a, C, dx, p, vs, i, w, h1, slt_mono vw_le h2, h3, h4, h5, q w H1 e1 h6⟩
theorem ev_clocks (Z : Zo G mg) (h : Ev G ta ρ (.zone c u m)) : Ed G (SlX.tSl G.K ta "own_clocks") ρ (.int c) := ev_slot h fun H v ⟨a, dx, vc, vt, h1, h2, h3, h4⟩ => let ⟨p, hp⟩ := Z.s0; ⟨a, G.Z, dx, p, _, 0, _, h1, h2, Z.c, hp, rfl, .int _⟩
theorem ev_closed (Z : Zo G mg) (h : Ev G ta ρ (.zone c u m)) : Ed G (SlX.tSl G.K ta "own_closed") ρ (clD (closedForm m)) := ev_slot h fun H v ⟨a, dx, vc, vt, h1, h2, h3, h4⟩ => let ⟨p, hp⟩ := Z.s1; ⟨a, G.Z, dx, p, _, 1, _, h1, h2, Z.c, hp, rfl, h3⟩
theorem ev_told (Z : Zo G mg) (h : Ev G ta ρ (.zone c u m)) : Ed G (SlX.tSl G.K ta "own_told") ρ (matD m) := ev_slot h fun H v ⟨a, dx, vc, vt, h1, h2, h3, h4⟩ => let ⟨p, hp⟩ := Z.s2; ⟨a, G.Z, dx, p, _, 2, _, h1, h2, Z.c, hp, rfl, h4⟩
theorem ev_unit (Z : Zo G mg) (h : Ev G ta ρ (.zone c u m)) : Ed G (SlX.tSl G.K ta "own_unit") ρ (.int u) := ev_slot h fun H v ⟨a, dx, vc, vt, h1, h2, h3, h4⟩ => let ⟨p, hp⟩ := Z.s3; ⟨a, G.Z, dx, p, _, 3, _, h1, h2, Z.c, hp, rfl, .int _⟩
theorem ev_rows (Z : Zo G mg) (h : Ev G ta ρ (.known m)) : Ed G (SlX.tSl G.K ta "own_rows") ρ (matD m) := ev_slot h fun H v ⟨a, dx, vt, h1, h2, h3⟩ => let ⟨p, hp⟩ := Z.r0; ⟨a, G.B, dx, p, _, 0, _, h1, h2, Z.b, hp, rfl, h3⟩
/-- isinstance(o, Zone) of a zone -/
theorem ev_isiZ (Z : Zo G mg) (h : Ev G ta ρ (.zone c u m)) : Ed G (tCB (SlX.rIsiSl G.K (.ref G.Z)) (tCons ta (tCons (tC (.ref G.Z)) tNil))) ρ (.bool true) := fun S σ H E Q q => h S σ H E _ fun v H1 e1 ⟨a, dx, vc, vt, h1, h2, h3, h4⟩ => by
  subst h1
  exact ⟨a, G.Z, dx, _, _, true, rfl, rfl, fun w hw => hw, slt_mono vw_le h2, Z.c, Z.iz, Z.kzz, q _ H1 e1 (.bl _)⟩
abbrev rIsiKB (G : Gd) : List V → Hp → VK → Prop := fun xs H Q => rIsi G.K xs H Q ∨ SlX.rIsiSl G.K (.ref G.B) xs H Q
theorem ev_isiK (Z : Zo G mg) (h : Ev G ta ρ (.known m)) : Ed G (tCB (rIsiKB G) (tCons ta (tCons (tC (.ref G.B)) tNil))) ρ (.bool true) := fun S σ H E Q q => h S σ H E _ fun v H1 e1 ⟨a, dx, vt, h1, h2, h3⟩ => by
  subst h1
  exact .inr ⟨a, G.B, dx, _, _, true, rfl, rfl, fun w hw => hw, slt_mono vw_le h2, Z.b, Z.ib, Z.kbb, q _ H1 e1 (.bl _)⟩
theorem ev_isiKt (Z : Zo G mg) {ds : List PyData} (h : Ed G ta ρ (.tuple ds)) : Ed G (tCB (rIsiKB G) (tCons ta (tCons (tC (.ref G.B)) tNil))) ρ (.bool false) := fun S σ H E Q q => h S σ H E _ fun v H1 e1 r1 =>
  .inl ⟨v, .ref G.B, _, _, false, rfl, .own G.B, tyx_of (dp_mono vw_le _ _ r1), Z.ktb, q _ H1 e1 (.bl _)⟩
/-- o.m(..), o a zone -/
theorem ev_mt (h : Ev G ta ρ (.zone c u m)) (ha : Ea G t ρ es) (hR : R (.zone c u m :: es) y) (hn : es.length + 1 = n := by rfl) (hd : es.all noDie = true := by rfl) (hy : noDie y = true := by rfl) : Ev G (SlX.tMethSl G.Z (spE G n R) E0 ta t) ρ y := fun S σ H E Q q =>
  h S σ H E _ fun v H1 e1 r1 => by
    obtain ⟨a, dx, vc, vt, h1, h2, h3, h4⟩ := id r1
    refine ⟨a, dx, _, h1, slt_mono vw_le h2, ha S σ H1 (E.mono e1) _ fun ws H2 e2 r2 => ?_⟩
    refine ⟨by rw [List.length_cons, Paired.length r2]; exact hn, S, _, y, (E.mono (e1.trans e2)).dom, .cons (rep_dd rfl (rep_mono (vw_mono e2) r1)) (repL_dd hd r2), hR, fun v H3 e3 r3 => q v H3 ((e1.trans e2).trans e3) (rep_du hy r3)⟩
theorem ev_pr (h : Ev G ta ρ (.zone c u m)) (hR : R [.zone c u m] y) (hy : noDie y = true := by rfl) : Ev G (SlX.tPropSl G.Z (spE G 1 R) E0 ta) ρ y := fun S σ H E Q q =>
  h S σ H E _ fun v H1 e1 r1 => by
    obtain ⟨a, dx, vc, vt, h1, h2, h3, h4⟩ := id r1
    subst h1
    exact ⟨a, dx, _, rfl, slt_mono vw_le h2, rfl, S, _, y, (E.mono e1).dom, .cons (rep_dd rfl r1) .nil, hR, fun v H3 e3 r3 => q v H3 (e1.trans e3) (rep_du hy r3)⟩
/-- the promise of an __init__: what it is handed, what it makes of the new instance -/
def spI (G : Gd) (C : Addr) (n : Nat) (R : List Ent → Ent → Prop) : Sp := fun vs H Q _ => vs.length = n + 1 ∧ ∃ x dx ws S es y, vs = .ref x :: ws ∧ dx ≠ x ∧ H x = some (.ins C dx []) ∧ H dx ≠ none ∧ x ∉ S ∧ dx ∉ S ∧ Dom S H ∧ RepL { G with dd := none } (vw (x :: dx :: S) H) ws es ∧ R es y ∧
  ∀ H', (∀ a o, a ≠ x → a ≠ dx → H a = some o → H' a = some o) → Rep { G with dd := none } (vw S H') (.ref x) y → Q .non H'
theorem ev_mk {C : Addr} (ha : Ea G t ρ es) (hR : R es y) (hn : es.length = n := by rfl) (hd : es.all noDie = true := by rfl) (hy : noDie y = true := by rfl) : Ev G (tMake C (spI G C n R) [] E0 t) ρ y := fun S σ H E Q q =>
  ha S σ H E _ fun vs H1 e1 r1 => fun x dx hx hdx ne => by
    have dm := (E.mono e1).dom
    have e2 : Ex H1 (upd (upd H1 dx (.own x)) x (.ins C dx [])) := fun a o h => by
      rw [upd_ne (ne_of_none h hx), upd_ne (ne_of_none h hdx)]
      exact h
    rw [List.append_nil]
    refine ⟨by rw [List.length_cons, Paired.length r1]; exact congrArg (· + 1) hn, x, dx, vs, S, es, y, rfl, ne, upd_same, by rw [upd_ne ne, upd_same]; exact fun z => (nomatch z), dm.new hx, dm.new hdx, dm.mono e2, repL_mono (fun a o h => ?_) (repL_dd hd r1), hR, fun H' k r => ⟨rfl, q (.ref x) H' (e1.trans fun a o h => k a o (ne_of_none h hx) (ne_of_none h hdx) (e2 a o h)) (rep_du hy r)⟩⟩
    obtain ⟨h1, h2⟩ := vw_some h
    rw [vw_out]
    · exact e2 a o h2
    · intro z
      rcases List.mem_cons.mp z with z | z
      · exact ne_of_none h2 hx z
      · rcases List.mem_cons.mp z with z | z
        · exact ne_of_none h2 hdx z
        · exact h1 z
/-! ### ==, != of zones -/
theorem ro_eqZ {c' u' : Int} {m' : Mat} (Z : Zo G mg) (hR : R [.zone c u m, .zone c' u' m'] y) (hy : noDie y = true := by rfl) : Ro G (SlX.rOwn G.K G.Z (spE G 2 R) E0) (.zone c u m) (.zone c' u' m') y := fun S H v w dm r1 r2 Q q => by
  obtain ⟨a, dx, vc, vt, h1, h2, _, _⟩ := id r1
  obtain ⟨b, dy, wc, wt, k1, k2, _, _⟩ := id r2
  exact ⟨a, dx, _, b, G.Z, dy, _, h1, k1, slt_mono vw_le h2, slt_mono vw_le k2, Z.nf, rfl, S, _, y, dm, .cons (rep_dd rfl r1) (.cons (rep_dd rfl r2) .nil), hR, fun v H3 e3 r3 => q v H3 e3 (rep_du hy r3)⟩
theorem ro_neZ {c' u' : Int} {m' : Mat} {b : Bool} (Z : Zo G mg) (hR : R [.zone c u m, .zone c' u' m'] (.dat (.bool b))) : Ro G (NeX.rNeOwn G.K G.Z (spE G 2 R) E0) (.zone c u m) (.zone c' u' m') (.dat (.bool (!b))) := fun S H v w dm r1 r2 Q q => by
  obtain ⟨a, dx, vc, vt, h1, h2, _, _⟩ := id r1
  obtain ⟨b', dy, wc, wt, k1, k2, _, _⟩ := id r2
  refine ⟨a, dx, _, b', G.Z, dy, _, h1, k1, slt_mono vw_le h2, slt_mono vw_le k2, Z.nf, rfl, S, _, _, dm, .cons (rep_dd rfl r1) (.cons (rep_dd rfl r2) .nil), hR, fun v H3 e3 r3 => ⟨b, dp_bool r3, q _ H3 e3 (.bl _)⟩⟩
end
/-- the class's own __eq__, as == and != call it -/
structure HasE (P : Program) (w : World) (K : PySem.W.Frag) (mg : Str → Option Value) (base : Heap) (C : Addr) (k : Nat) (sp : Sp) : Prop where
  ex : ∃ g, FnR P w K mg base CX0 k g sp ∧ PySem.W.findIn K (.ref C) "__eq__" = some (some (.ref g)) ∧ PySem.W.isFn K (.ref g) = true
  hm : PySem.W.mroIn K C (.type "object") = some true
  hne : PySem.W.findIn K (.ref C) "__ne__" = some (some (.builtin "object.__ne__"))
theorem op_eqZ {X : Cx} {K : PySem.W.Frag} {C : Addr} {j k : Nat} {sp : Sp} (h : HasE X.prog X.w K X.mg X.base C k sp) (hr : Room j X.A) (hjk : k ≤ j) (hK : X.K = K := by rfl) : OpR X (compareOp .Eq) (SlX.rOwn K C sp E0) := by
  subst hK
  obtain ⟨g, F, h1, h2⟩ := h.ex
  exact SlX.op_own (fun _ _ => rfl) h1 h2 F (hr.mono hjk) pass0
theorem op_neZ {X : Cx} {K : PySem.W.Frag} {C : Addr} {j k : Nat} {sp : Sp} (h : HasE X.prog X.w K X.mg X.base C k sp) (hr : Room j X.A) (hjk : k + 1 ≤ j) (hK : X.K = K := by rfl) : OpR X (compareOp .NotEq) (NeX.rNeOwn K C sp E0) := by
  subst hK
  obtain ⟨g, F, h1, h2⟩ := h.ex
  exact NeX.op_neOwn h.hm h.hne h1 h2 F (hr.mono hjk) pass0
end Ek
end

section
set_option Elab.async false
set_option linter.all false
set_option maxRecDepth 100000
set_option maxHeartbeats 4000000
/-! t * 1: the same tuple -/
namespace Kv
open PySem PySem.Spec PyProof.Rows L2 Ek
theorem tuple_mul1 (l : Addr) (items : Array Value) (n : Nat) (dd : Option Addr) (sl : Array (Option Value)) (u : Tok) :
    Meets (Builtin.«tuple.__mul__» ⟨[.ref l, .int 1 u], []⟩) (fun _ R s => s.heap.get? l = some { cls := .type "tuple", dict := dd, data := .seq items n, slots := sl } ∧ R (.ok (.ret (Value.ref l))) s) :=
  .of_wp fun prog w A R s h => by
    obtain ⟨hp, g, d, tk, os⟩ := s
    obtain ⟨hl, h⟩ := h
    have f1 := AutoSeq1.idx_int
    have c1 : (items.isEmpty || (1 : Int) == 1) = true := by simp
    wp_walk using wpAny_loadPart' hl
    repeat (first
      | (refine wpAny_ite_false (by decide) ?_; wp_walk using wpAny_loadPart' hl)
      | (refine wpAny_ite_true (decide_eq_true c1) ?_; wp_walk using wpAny_loadPart' hl))
    exact ⟨_, rfl, h⟩
def rRepT1 (K : PySem.W.Frag) : R2 := fun x y H Q => ∃ l xs, x = .ref l ∧ y = .int 1 ∧ SqT K H l xs ∧ Q (.ref l) H
section
variable {X : Cx}
theorem op_repT1 : OpR X (binaryOp .Mult) (rRepT1 X.K) := by
  intro pins s σ H x y v u Q I rx ry h
  obtain ⟨l, xs, rfl, rfl, hT, q⟩ := h
  cases rx
  obtain ⟨t, rfl⟩ := ry
  obtain ⟨its, r, ⟨⟨cls, dd, data, sl⟩, ho, hc, n, hd⟩, hs⟩ := I.tuple hT
  simp only at hc hd
  subst hc hd
  refine wpAny_binaryOp_repeat_ref (T := "tuple") (U := "int") (by decide) ⟨_, ho, rfl⟩ (fun s' => typeIs_int s' 1 t) noFill_tuple_mul F.fills_int_mul F.slot_int_rmul repeat_tuple F.slot_int_index.lookup
    (call_meets F.slot_int_rmul (typeIs_int s 1 t) F.entry_int_rmul (F.args_int_rmul_2 _ _) (int_rmul_tuple 1 t l its.toArray n dd sl)
      ⟨ho, rfl, ⟨_, ho, rfl⟩, call_meets F.slot_tuple_mul ⟨_, ho, rfl⟩ F.entry_tuple_mul (F.args_tuple_mul_2 _ _) (tuple_mul1 l its.toArray n dd sl t) ⟨ho, ?_⟩⟩)
  exact ⟨.ref l, H, I, rfl, q⟩
def rRepA (K : PySem.W.Frag) : R2 := fun x y H Q => rRepT K x y H Q ∨ rRepT1 K x y H Q
theorem op_repAK (K : PySem.W.Frag) (h : X.K = K := by rfl) : OpR X (binaryOp .Mult) (rRepA K) := by
  subst h
  intro pins s σ H x y v u Q I rx ry h
  rcases h with h | h
  · exact op_repT pins s σ H x y v u Q I rx ry h
  · exact op_repT1 pins s σ H x y v u Q I rx ry h
theorem op_repTK (K : PySem.W.Frag) (h : X.K = K := by rfl) : OpR X (binaryOp .Mult) (rRepT K) := by subst h; exact op_repT
end
end Kv
end

section
set_option Elab.async false
set_option linter.all false
set_option maxRecDepth 100000
set_option maxHeartbeats 4000000
namespace Ek
open PySem PySem.Spec PyProof.Rows L2 K18
open Evl (Ex ex_rd ex_l ex_t fresh_back sz_of sz_lt)
/-! ### repr of a truth value -/
def bS (b : Bool) : Str := if b then "True" else "False"
def rReprB : List V → Hp → VK → Prop := fun xs H Q => ∃ b, xs = [.bl b] ∧ Q (.str (bS b)) H
theorem call_reprB {X : Cx} : CallR X (.builtin "repr") rReprB := by
  intro pins s σ H xs us Q I r h
  obtain ⟨b, rfl, q⟩ := h
  obtain ⟨u, rfl, ru⟩ := r.one
  cases (show u = Value.bool b from ru)
  exact PySem.P.repr_of_bool ⟨.str (bS b), H, I.tok _, ⟨s.toks, by cases b <;> rfl⟩, q⟩
section
variable {G : Gd} {ρ : Rho} {ta tb : TE}
theorem rc_repr {b : Bool} : Rc G rReprB [.dat (.bool b)] (.dat (.str (bS b))) := fun S H vs dm r Q q => by
  obtain ⟨v, rfl, r1⟩ := repL1 r
  cases dp_bool r1
  exact ⟨b, rfl, q _ H (Ex.refl H) (.str _)⟩
theorem bS_ne (a b : Bool) : decide (bS a = bS b) = decide (a = b) := by cases a <;> cases b <;> decide
theorem dpAll_flat {K : PySem.W.Frag} {H : Hp} {xs : List V} {ds : List PyData} (h : DpAll K H xs ds) : ∀ k : Nat, DpAll K H (List.replicate k xs).flatten (List.replicate k ds).flatten
  | 0 => .nil
  | k + 1 => by
    rw [List.replicate_succ, List.replicate_succ, List.flatten_cons, List.flatten_cons]
    exact dpAll_append h (dpAll_flat h k)
theorem ro_repT {ds : List PyData} {k : Nat} (hd : ds ≠ []) (h1 : ds.length ≤ 1000) (h2 : 2 ≤ k) (h3 : k ≤ 1000) : Ro G (rRepT G.K) (.dat (.tuple ds)) (.dat (.int (k : Int))) (.dat (.tuple (List.replicate k ds).flatten)) := fun S H v w dm r1 r2 Q q => by
  obtain ⟨a, xs, rfl, hs, hx⟩ := tup_of r1
  cases dp_int r2
  have hl := dpAll_len hx
  refine ⟨a, k, xs, rfl, rfl, hs, fun z => hd (by rw [z] at hl; exact List.eq_nil_of_length_eq_zero hl.symm), by omega, by omega, by omega, fun p hp => q _ _ (Ex.new hp) (.tup (.inl (.inl (vw_at dm hp))) (dpAll_mono (vw_ex_new hp) _ _ ?_))⟩
  rw [Int.toNat_natCast]
  exact dpAll_flat hx k
theorem ro_repA {ds : List PyData} {k : Nat} (hd : ds ≠ []) (h1 : ds.length ≤ 1000) (h2 : 1 ≤ k) (h3 : k ≤ 1000) : Ro G (Kv.rRepA G.K) (.dat (.tuple ds)) (.dat (.int (k : Int))) (.dat (.tuple (List.replicate k ds).flatten)) := fun S H v w dm r1 r2 Q q => by
  by_cases hk : 2 ≤ k
  · exact .inl (ro_repT hd h1 hk h3 S H v w dm r1 r2 Q q)
  · have e : k = 1 := by omega
    subst e
    obtain ⟨a, xs, rfl, hs, hx⟩ := tup_of r1
    cases dp_int r2
    refine .inr ⟨a, xs, rfl, rfl, hs, q _ H (Ex.refl H) ?_⟩
    have : (List.replicate 1 ds).flatten = ds := by simp
    rw [this]
    exact r1
end
end Ek
end

section
set_option Elab.async false
set_option linter.all false
set_option maxRecDepth 100000
set_option maxHeartbeats 4000000
namespace Ek
open PySem PySem.Spec PyProof.Rows L2 K18
open Evl (Ex ex_rd ex_l ex_t fresh_back sz_of sz_lt)
/-! ### what is drawn: the dice change, all else stands; the value is one of those allowed -/
def Xd (G : Gd) (H H' : Hp) : Prop := (∀ a o, some a ≠ G.dd → H a = some o → H' a = some o) ∧ ∀ d, G.dd = some d → DiceAt H' d
def Dc (G : Gd) (S : List Addr) (H : Hp) : Prop := ∃ d, G.dd = some d ∧ d ∈ S ∧ DiceAt H d
section
variable {G : Gd} {S : List Addr} {H H1 H2 : Hp} {σ : L2.St} {ρ : Rho}
theorem Dc.ex (c : Dc G S H) (e : Ex H H1) : Dc G S H1 := let ⟨d, h1, h2, h3⟩ := c; ⟨d, h1, h2, h3.ex e⟩
theorem Dc.xd (c : Dc G S H) (x : Xd G H H1) : Dc G S H1 := let ⟨d, h1, h2, _⟩ := c; ⟨d, h1, h2, x.2 d h1⟩
theorem Xd.of (c : Dc G S H) (e : Ex H H1) : Xd G H H1 := ⟨fun a o _ h => e a o h, fun d hd => by
  obtain ⟨d', h1, _, h3⟩ := c
  rw [h1] at hd
  cases hd
  exact h3.ex e⟩
theorem Xd.trans (x : Xd G H H1) (y : Xd G H1 H2) : Xd G H H2 := ⟨fun a o n h => y.1 a o n (x.1 a o n h), y.2⟩
theorem Xd.vw (c : Dc G S H) (x : Xd G H H1) : Ex (vw S H) (vw S H1) := fun a o h => by
  obtain ⟨h1, h2⟩ := vw_some h
  obtain ⟨d, k1, k2, _⟩ := c
  rw [vw_out h1]
  exact x.1 a o (fun z => h1 (by rw [k1] at z; cases z; exact k2)) h2
theorem Xd.dom (c : Dc G S H) (dm : Dom S H) (x : Xd G H H1) : Dom S H1 := fun a ha => by
  by_cases e : some a = G.dd
  · obtain ⟨x', y, z, h⟩ := x.2 a e.symm
    rw [h]
    exact fun z => nomatch z
  · cases q : H a with
    | none => exact absurd q (dm a ha)
    | some o =>
      rw [x.1 a o e q]
      exact fun z => nomatch z
theorem Env.xd (E : Env G S σ H ρ) (c : Dc G S H) (x : Xd G H H1) : Env G S σ H1 ρ := E.view (x.dom c E.dom) (x.vw c)
theorem Xd.fresh (c : Dc G S H) (x : Xd G H H1) {p : Addr} (h : H1 p = none) : H p = none := by
  cases q : H p with
  | none => rfl
  | some o =>
    by_cases e : some p = G.dd
    · obtain ⟨x', y, z, k⟩ := x.2 p e.symm
      rw [k] at h
      cases h
    · rw [x.1 p o e q] at h
      cases h
end
section
variable (G : Gd)
def Er (te : TE) (ρ : Rho) (P : Ent → Prop) : Prop := ∀ S σ H, Env G S σ H ρ → Dc G S H → ∀ Q : VK, (∀ v H' e, P e → Xd G H H' → Rep G (vw S H') v e → Q v H') → te σ H Q
def Erl (te : TE) (ρ : Rho) (P : List PyData → Prop) : Prop := ∀ S σ H, Env G S σ H ρ → Dc G S H → ∀ Q : VK, (∀ p xs H' ds, P ds → H p = none → Xd G H H' → H' p = some (.lst xs) → DpAll G.K (vw (p :: S) H') xs ds → Q (.ref p) H') → te σ H Q
def Ert (tt : TT) (ρ : Rho) (P : Bool → Prop) : Prop := ∀ S σ H, Env G S σ H ρ → Dc G S H → ∀ Q : Bool → Hp → Prop, (∀ b H', P b → Xd G H H' → Q b H') → tt σ H Q
def Era (ta : TA) (ρ : Rho) (P : List Ent → Prop) : Prop := ∀ S σ H, Env G S σ H ρ → Dc G S H → ∀ Q : List V → Hp → Prop, (∀ vs H' es, P es → Xd G H H' → RepL G (vw S H') vs es → Q vs H') → ta σ H Q
end
section
variable {G : Gd} {ρ : Rho} {ta tb te : TE} {tr : TA} {tt : TT} {x : Ent} {P P' R : Ent → Prop} {Ps : List Ent → Prop}
theorem er_ev (h : Ev G te ρ x) : Er G te ρ (fun e => e = x) := fun S σ H E c Q q => h S σ H E Q fun v H1 e1 r1 => q v H1 x rfl (Xd.of c e1) r1
theorem Er.mono (h : Er G te ρ P) (k : ∀ e, P e → P' e) : Er G te ρ P' := fun S σ H E c Q q => h S σ H E c Q fun v H1 e p => q v H1 e (k e p)
theorem erl_el {ds : List PyData} (h : El G te ρ ds) : Erl G te ρ (fun e => e = ds) := fun S σ H E c Q q => h S σ H E Q fun p xs H1 n e1 h1 d1 => q p xs H1 ds rfl n (Xd.of c e1) h1 d1
theorem Erl.ed {Pl : List PyData → Prop} (h : Erl G te ρ Pl) : Er G te ρ (fun e => ∃ ds, Pl ds ∧ e = .dat (.list ds)) := fun S σ H E c Q q => h S σ H E c Q fun p xs H' ds hp n0 x h1 h2 =>
  q (.ref p) H' _ ⟨ds, hp, rfl⟩ x (.lst (.inl (.inl (by rw [vw_out (E.dom.new n0)]; exact h1))) (dpAll_mono (vw_sub (fun _ z => List.mem_cons_of_mem _ z)) _ _ h2))
theorem era_nil : Era G tNil ρ (fun es => es = []) := fun S σ H E c Q q => q [] H [] rfl (Xd.of c (Ex.refl H)) .nil
theorem era_cons (h : Er G ta ρ P) (hr : Era G tr ρ Ps) : Era G (tCons ta tr) ρ (fun es => ∃ e r, es = e :: r ∧ P e ∧ Ps r) := fun S σ H E c Q q => h S σ H E c _ fun v H1 e p x1 r1 => hr S σ H1 (E.xd c x1) (c.xd x1) _ fun vs H2 es ps x2 r2 =>
  q _ H2 _ ⟨e, es, rfl, p, ps⟩ (x1.trans x2) (.cons (rep_mono (x2.vw (c.xd x1)) r1) r2)
theorem er_op {r : R2} (ha : Er G ta ρ P) (hb : Er G tb ρ P') (hr : ∀ x y, P x → P' y → ∃ z, Ro G r x y z ∧ R z) : Er G (tOp r ta tb) ρ R := fun S σ H E c Q q =>
  ha S σ H E c _ fun v H1 x p1 x1 r1 => hb S σ H1 (E.xd c x1) (c.xd x1) _ fun w H2 y p2 x2 r2 => by
    obtain ⟨z, hz, pz⟩ := hr x y p1 p2
    have c2 := (c.xd x1).xd x2
    exact hz S H2 v w ((x1.trans x2).dom c E.dom) (rep_mono (x2.vw (c.xd x1)) r1) r2 Q fun u H3 e3 r3 => q u H3 z pz ((x1.trans x2).trans (Xd.of c2 e3)) r3
theorem er_cb {r : List V → Hp → VK → Prop} (h : Era G tr ρ Ps) (hr : ∀ es, Ps es → ∃ z, Rc G r es z ∧ R z) : Er G (tCB r tr) ρ R := fun S σ H E c Q q => h S σ H E c _ fun vs H1 es p x1 r1 => by
  obtain ⟨z, hz, pz⟩ := hr es p
  exact hz S H1 vs (x1.dom c E.dom) r1 Q fun u H2 e2 r2 => q u H2 z pz (x1.trans (Xd.of (c.xd x1) e2)) r2
theorem ert_B (h : Er G te ρ (fun e => ∃ b, e = .dat (.bool b))) : Ert G (tTest te) ρ (fun _ => True) := fun S σ H E c Q q => h S σ H E c _ fun v H1 e ⟨b, eb⟩ x1 r1 => by
  subst eb
  exact ⟨b, dp_bool r1, q b H1 trivial x1⟩
theorem er_if (h : Ert G tt ρ (fun _ => True)) (h1 : Er G ta ρ P) (h2 : Er G tb ρ P) : Er G (tIf tt ta tb) ρ P := fun S σ H E c Q q => h S σ H E c _ fun b H1 _ x1 => by
  cases b with
  | true =>
    show ta σ H1 Q
    exact h1 S σ H1 (E.xd c x1) (c.xd x1) Q fun v H2 e p x2 r => q v H2 e p (x1.trans x2) r
  | false =>
    show tb σ H1 Q
    exact h2 S σ H1 (E.xd c x1) (c.xd x1) Q fun v H2 e p x2 r => q v H2 e p (x1.trans x2) r
/-- a test that draws nothing, in a value that draws -/
theorem er_ifE {b : Bool} (h : Et G tt ρ b) (h1 : b = true → Er G ta ρ P) (h2 : b = false → Er G tb ρ P) : Er G (tIf tt ta tb) ρ P := fun S σ H E c Q q => h S σ H E _ fun H1 e1 => by
  cases b with
  | true =>
    show ta σ H1 Q
    exact h1 rfl S σ H1 (E.mono e1) (c.ex e1) Q fun v H2 e p x2 r => q v H2 e p ((Xd.of c e1).trans x2) r
  | false =>
    show tb σ H1 Q
    exact h2 rfl S σ H1 (E.mono e1) (c.ex e1) Q fun v H2 e p x2 r => q v H2 e p ((Xd.of c e1).trans x2) r
theorem repL_dats {H : Hp} : ∀ {vs : List V} {es : List Ent}, RepL G H vs es → (∀ e ∈ es, ∃ d, e = .dat d) → ∃ ds : List PyData, es = ds.map .dat
  | _, [], _, _ => ⟨[], rfl⟩
  | _, e :: es, .cons _ h2, h => by
    obtain ⟨d, rfl⟩ := h e List.mem_cons_self
    obtain ⟨ds, rfl⟩ := repL_dats h2 fun x hx => h x (List.mem_cons_of_mem _ hx)
    exact ⟨d :: ds, rfl⟩
theorem erl_lst (h : Era G tr ρ (fun es => ∃ ds : List PyData, es = ds.map .dat ∧ ds.length ≤ 1000 ∧ ∃ Q : List PyData → Prop, Q ds)) : Erl G (tLst tr) ρ (fun ds => ds.length ≤ 1000) := fun S σ H E c Q q => h S σ H E c _ fun vs H1 es ⟨ds, e, hl, _⟩ x1 r1 => by
  subst e
  have ha := dpAll_of_repL r1
  refine ⟨by rw [dpAll_len ha]; exact sz_of (by omega), fun p hp => q p vs _ ds hl (x1.fresh c hp) (x1.trans (Xd.of (c.xd x1) (Ex.new hp))) upd_same (dpAll_mono (vw_more (Ex.new hp) hp) _ _ ha)⟩
/-- [..], its items as Ps allows -/
theorem erl_lstP {Pl : List PyData → Prop} (h : Era G tr ρ Ps) (hp : ∀ es, Ps es → ∃ ds : List PyData, es = ds.map .dat ∧ ds.length ≤ 1000 ∧ Pl ds) : Erl G (tLst tr) ρ Pl := fun S σ H E c Q q => h S σ H E c _ fun vs H1 es ps x1 r1 => by
  obtain ⟨ds, e, hl, hpl⟩ := hp es ps
  subst e
  have ha := dpAll_of_repL r1
  refine ⟨by rw [dpAll_len ha]; exact sz_of (by omega), fun p hp => q p vs _ ds hpl (x1.fresh c hp) (x1.trans (Xd.of (c.xd x1) (Ex.new hp))) upd_same (dpAll_mono (vw_more (Ex.new hp) hp) _ _ ha)⟩
theorem er_tupleOf {Pl : List PyData → Prop} (h : Er G ta ρ (fun e => ∃ ds, Pl ds ∧ e = .dat (.list ds))) : Er G (tThen ta (kTup G.K)) ρ (fun e => ∃ ds, Pl ds ∧ e = .dat (.tuple ds)) := fun S σ H E c Q q => h S σ H E c _ fun v H1 e ⟨ds, hp, ee⟩ x1 r1 => by
  subst ee
  obtain ⟨a, xs, rfl, hs, hd⟩ := lst_of r1
  have dm := x1.dom c E.dom
  exact .inl ⟨a, xs, rfl, hs, fun l hl => q _ _ _ ⟨ds, hp, rfl⟩ (x1.trans (Xd.of (c.xd x1) (Ex.new hl))) (.tup (.inl (.inl (vw_at dm hl))) (dpAll_mono (vw_ex_new hl) _ _ hd))⟩
theorem erl_cat {ds : List PyData} {Pl : List PyData → Prop} (ha : El G ta ρ ds) (hb : Erl G tb ρ Pl) (hz : ∀ es, Pl es → ds.length + es.length ≤ 100000) : Erl G (tOp rCat ta tb) ρ (fun e => ∃ es, Pl es ∧ e = ds ++ es) := fun S σ H E c Q q =>
  ha S σ H E _ fun p xs H1 n1 e1 h1 d1 => by
    have E1 : Env G (p :: S) σ H1 ρ := E.view (fun a ha => by
      rcases List.mem_cons.mp ha with rfl | ha
      · rw [h1]
        exact fun z => nomatch z
      · exact E.dom.mono e1 a ha) (vw_more e1 n1)
    obtain ⟨d, cd1, cd2, cd3⟩ := id c
    have c1 : Dc G (p :: S) H1 := ⟨d, cd1, List.mem_cons_of_mem _ cd2, cd3.ex e1⟩
    have c1' : Dc G S H1 := ⟨d, cd1, cd2, cd3.ex e1⟩
    refine hb (p :: S) σ H1 E1 c1 _ fun p' ys H2 es hp n2 x2 h2 d2 => ?_
    have hp1 : H2 p = some (.lst xs) := x2.1 _ _ (fun z => by
      rw [cd1] at z
      cases z
      obtain ⟨a1, a2, a3, k⟩ := cd3
      rw [n1] at k
      cases k) h1
    refine ⟨p, p', xs, ys, rfl, rfl, hp1, h2, by rw [dpAll_len d1, dpAll_len d2]; exact sz_of (hz es hp), fun l hl => ?_⟩
    have x12 : Xd G H H2 := (Xd.of c e1).trans x2
    have c2 := c1.xd x2
    refine q l _ _ _ ⟨es, hp, rfl⟩ (x12.fresh c hl) (x12.trans (Xd.of c2 (Ex.new hl))) upd_same (dpAll_append (dpAll_mono ?_ _ _ d1) (dpAll_mono ?_ _ _ d2))
    · refine (x2.vw c1).trans ((vw_sub fun _ z => List.mem_cons_of_mem _ z).trans ?_)
      exact vw_more (Ex.new hl) hl
    · refine Ex.trans (vw_sub fun a z => ?_) (vw_more (S := S) (Ex.new hl) hl)
      exact List.mem_cons_of_mem _ (List.mem_cons_of_mem _ z)
end
/-- item by item -/
def All2 {α : Type} (Pe : α → PyData → Prop) (l : List α) (ds : List PyData) : Prop := ds.length = l.length ∧ ∀ (i : Nat) a d, l[i]? = some a → ds[i]? = some d → Pe a d
section
variable {G : Gd} {ρ : Rho} {wi : TI} {g : TG} {te : TE} {vs js : List Nat}
theorem erl_lc {α : Type} {l : List α} {enc : α → Ent} (Pe : α → PyData → Prop) (hs : Sr G wi ρ (l.map enc)) (hz : l.length ≤ 100000) (hj : ∀ j ∈ js, j ∈ vs)
    (he : ∀ a, a ∈ l → ∃ ρ1, Tg G g js (wipeR ρ vs) (enc a) ρ1 ∧ Er G te ρ1 (fun e => ∃ d, e = .dat d ∧ Pe a d)) : Erl G (tLc wi g tYes te vs) ρ (All2 Pe l) := fun S σ H E c Q q => hs S σ H E _ fun J H1 e1 ⟨Gu, Y, w, hG, hY⟩ => fun Dl hD => by
  have E1 := E.mono e1
  have c1 := c.ex e1
  have dm1 := E1.dom
  have nD : Dl ∉ S := dm1.new hD
  obtain ⟨dd, cd1, cd2, cd3⟩ := id c1
  have nDd : Dl ≠ dd := fun z => nD (by rw [z]; exact cd2)
  have view : ∀ {H2 : Hp}, Xd G H1 H2 → Ex (vw S H1) (vw (Dl :: S) H2) := fun x a o h => by
    obtain ⟨h1, h2⟩ := vw_some h
    have : a ≠ Dl := ne_of_none h2 hD
    rw [vw_out (by simp [this, h1])]
    exact x.1 a o (fun z => h1 (by rw [cd1] at z; cases z; exact cd2)) h2
  have mutd : ∀ {H2 : Hp} {o : HO}, Xd G H1 H2 → Xd G H1 (upd H2 Dl o) := fun x => ⟨fun a o n h => by
    rw [upd_ne (ne_of_none h hD)]
    exact x.1 a o n h, fun d hd => by
    obtain ⟨a1, a2, a3, k⟩ := x.2 d hd
    rw [cd1] at hd
    cases hd
    exact ⟨a1, a2, a3, by rw [upd_ne fun z => nDd z.symm]; exact k⟩⟩
  have hlen : (l.map enc).length = l.length := List.length_map ..
  refine lc_it w (fun i H2 => Xd G H1 H2 ∧ ∃ acc ds, H2 Dl = some (.lst acc) ∧ DpAll G.K (vw (Dl :: S) H2) acc ds ∧ All2 Pe (l.take i) ds) ⟨Xd.of c1 (Ex.new hD), [], [], upd_same, .nil, rfl, fun i a d h => by simp at h⟩ (fun i H2 _ h => hG H2 ((view h.1).trans vw_le)) ?_ ?_
  · rintro i v H2 H3 hi ⟨x2, acc, ds, hD2, hacc, h2a⟩ hy
    have dm2 : Dom (Dl :: S) H2 := fun a ha => by
      rcases List.mem_cons.mp ha with rfl | ha
      · rw [hD2]
        exact fun z => by cases z
      · exact (x2.dom c1 dm1) a ha
    have c2 : Dc G (Dl :: S) H2 := ⟨dd, cd1, List.mem_cons_of_mem _ cd2, x2.2 dd cd1⟩
    obtain ⟨e3, bk3, x, hx, rep⟩ := hY i H2 v H3 hi ((view x2).trans vw_le) hy
    have r := rep (Dl :: S) dm2 (view x2)
    rw [hlen] at hi
    have ex : x = enc l[i] := by
      rw [List.getElem?_map, List.getElem?_eq_getElem hi] at hx
      exact (Option.some.inj hx).symm
    subst ex
    have E2 : Env G (Dl :: S) (L2.wipe σ vs) H3 (wipeR ρ vs) := (E1.wipe vs).view (dm2.mono e3) ((view x2).trans (vw_mono e3))
    obtain ⟨ρ1, h1, h2⟩ := he l[i] (List.getElem_mem hi)
    refine h1 (Dl :: S) v _ H3 E2 r _ fun σ2 E3 l2 k2 => ⟨?_, ?_⟩
    · rw [← wipe_wipe σ vs]
      exact wipe_same l2 fun i hi => k2 i fun z => hi (hj i z)
    show te σ2 H3 _
    refine h2 (Dl :: S) σ2 H3 E3 (c2.ex e3) _ fun y H5 e ⟨d, ed, pd⟩ x5 r5 => ?_
    subst ed
    have hD5 : H5 Dl = some (.lst acc) := x5.1 _ _ (fun z => by rw [cd1] at z; cases z; exact nDd rfl) (e3 _ _ hD2)
    have hl0 := dpAll_len hacc
    have hl1 := h2a.1
    rw [List.length_take] at hl1
    refine ⟨acc, hD5, ?_, mutd ((x2.trans (Xd.of c2 e3)).trans x5), acc ++ [y], ds ++ [d], upd_same, ?_, ?_, ?_⟩
    · exact sz_lt (by omega)
    · rw [vw_hid List.mem_cons_self]
      exact dpAll_append (dpAll_mono ((vw_mono e3).trans (x5.vw (c2.ex e3))) _ _ hacc) (.cons r5 .nil)
    · rw [List.length_append, h2a.1, List.length_take, List.length_take]
      show min i l.length + 1 = _
      omega
    · intro k a d' hk1 hk2
      have etake : l.take (i + 1) = l.take i ++ [l[i]] := by
        rw [List.take_add_one, List.getElem?_eq_getElem hi]
        rfl
      rw [etake] at hk1
      have hti : (l.take i).length = i := by rw [List.length_take]; omega
      by_cases hk : k < i
      · rw [List.getElem?_append_left (by omega)] at hk1
        rw [List.getElem?_append_left (by rw [h2a.1]; omega)] at hk2
        exact h2a.2 k a d' hk1 hk2
      · rw [List.getElem?_append_right (by omega)] at hk1
        rw [List.getElem?_append_right (by rw [h2a.1]; omega)] at hk2
        have : k = i := by
          have := (List.getElem?_eq_some_iff.mp hk1).1
          simp at this
          omega
        subst this
        rw [hti, Nat.sub_self] at hk1
        rw [h2a.1, hti, Nat.sub_self] at hk2
        cases hk1
        cases hk2
        exact pd
  · rintro H2 ⟨x2, acc, ds, hD2, hacc, h2a⟩
    rw [hlen, List.take_length] at h2a
    exact q Dl acc H2 ds h2a (fresh_back e1 hD) ((Xd.of c e1).trans x2) hD2 hacc
end
end Ek
end

section
set_option Elab.async false
set_option linter.all false
set_option maxRecDepth 100000
set_option maxHeartbeats 4000000
namespace Ek
open PySem PySem.Spec PyProof.Rows L2 K18
open Evl (Ex ex_rd ex_l ex_t fresh_back sz_of sz_lt)
/-- the promise of a def that rolls the dice: what it is handed, what it may hand back -/
def spR (G : Gd) (n : Nat) (R : List Ent → (Ent → Prop) → Prop) : Sp := fun vs H Q _ => vs.length = n ∧ ∃ d S es P, d ∈ S ∧ DiceAt H d ∧ Dom S H ∧ RepL { G with dd := some d } (vw S H) vs es ∧ R es P ∧ ∀ v H' e, P e → Xd { G with dd := some d } H H' → Rep { G with dd := some d } (vw S H') v e → Q v H'
section
variable {G : Gd} {ρ : Rho} {tr : TA} {P : Ent → Prop} {Ps : List Ent → Prop} {n : Nat} {R : List Ent → (Ent → Prop) → Prop}
theorem er_call (h : Era G tr ρ Ps) (hR : ∀ es, Ps es → es.length = n ∧ R es P) : Er G (tCall (spR G n R) [] E0 tr) ρ P := fun S σ H E c Q q => h S σ H E c _ fun vs H1 es p x1 r1 => by
  rw [List.append_nil]
  have c1 := c.xd x1
  obtain ⟨d, c2, c3, c4⟩ := id c1
  have eG : ({ G with dd := some d } : Gd) = G := by
    cases G
    cases c2
    rfl
  obtain ⟨h1, h2⟩ := hR es p
  refine ⟨by rw [Paired.length r1]; exact h1, d, S, es, P, c3, c4, x1.dom c E.dom, by rw [eG]; exact r1, h2, fun v H2 e pe x2 r2 => ?_⟩
  rw [eG] at x2 r2
  exact q v H2 e pe (x1.trans x2) r2
/-- a def that rolls: run from its promise -/
theorem fn_runR {t : TS} {N : List Str} {vs : List V} {H : Hp} {S : List Addr} {es : List Ent} {Q : VK} {d : Addr} (hd : d ∈ S) (da : DiceAt H d) (dm : Dom S H) (hv : RepL { G with dd := some d } (vw S H) vs es)
    (k : ∀ v H' e, P e → Xd { G with dd := some d } H H' → Rep { G with dd := some d } (vw S H') v e → Q v H') (h : Em { G with dd := some d } t (startR N es) [] P (fun _ _ => False)) : t { nx := fun _ H' => Q .non H', rt := Q } (L2.start N vs) H := by
  refine h S H _ (fun v H' e he b dc r => k v H' e he ⟨b, fun d' h' => (dc d' h').2⟩ r) (fun ρ' om' σ' H' hy _ => hy.elim) _ _ ⟨[], env_start dm hv, fun _ _ _ q => q, fun _ z => by simp at z, List.nodup_nil, rfl, fun _ _ _ z => by simp at z, fun d' z => ?_⟩
  cases z
  exact ⟨hd, da⟩
end
section
variable {G : Gd} {ρ : Rho} {om : Om} {ta tb te : TE} {tr : TA} {tt : TT} {t u : TS} {P R : Ent → Prop} {N : Rho → Om → Prop} {S0 : List Addr} {Hb : Hp} {σ : L2.St} {H H' : Hp} {d : Addr}
theorem Sta.dc {ls : List Addr} (s : Sta G S0 Hb σ H ρ om ls) (hd : G.dd = some d) : Dc G (ls ++ S0) H := ⟨d, hd, List.mem_append_right _ (s.dice d hd).1, (s.dice d hd).2⟩
theorem Sta.dc0 {ls : List Addr} (s : Sta G S0 Hb σ H ρ om ls) (hd : G.dd = some d) : Dc G S0 H := ⟨d, hd, (s.dice d hd).1, (s.dice d hd).2⟩
theorem Sta.xd {ls : List Addr} (s : Sta G S0 Hb σ H ρ om ls) (hd : G.dd = some d) (x : Xd G H H') : Sta G S0 Hb σ H' ρ om ls :=
  ⟨s.env.xd (s.dc hd) x, fun a o n h => x.1 a o n (s.base a o n h), s.new, s.nd, s.len, fun k i ds h => by
    obtain ⟨l, xs, h1, h2, h3, h4⟩ := s.own k i ds h
    refine ⟨l, xs, h1, h2, x.1 _ _ (fun z => ?_) h3, dpAll_mono (x.vw (s.dc hd)) _ _ h4⟩
    exact (s.new l (List.mem_of_getElem? h1)).2 (s.dice l z.symm).1, fun d' h' => ⟨(s.dice d' h').1, x.2 d' h'⟩⟩
theorem em_retR (hd : G.dd = some d) (h : Er G te (shw ρ om) P) (hP : ∀ e, P e → R e) : Em G (tRet te) ρ om R N := fun S0 Hb D hr hn σ H ⟨ls, s⟩ => h S0 σ H s.shw (s.dc0 hd) _ fun v H' e p x r =>
  hr v H' e (hP e p) (s.xd hd x).base (s.xd hd x).dice r
theorem em_asgR {i : Nat} (hd : G.dd = some d) (h : Er G te ρ P) (hi : i ∉ slots om) (hN : ∀ e, P e → N (ρ.set i (some e)) om) : Em G (tAsg te (gName i)) ρ om R N := fun S0 Hb D hr hn σ H ⟨ls, s⟩ =>
  h _ σ H s.env (s.dc hd) _ fun v H' e p x r => hn _ _ _ _ (hN e p) ⟨ls, (s.xd hd x).set r hi⟩
theorem em_parRR {i j : Nat} {Pa Pb : Ent → Prop} (hd : G.dd = some d) (h1 : Er G ta ρ Pa) (h2 : Er G tb ρ Pb) (hi : i ∉ slots om) (hj : j ∉ slots om) (hN : ∀ x y, Pa x → Pb y → N ((ρ.set i (some x)).set j (some y)) om) : Em G (tPar i j (tCons ta (tCons tb tNil))) ρ om R N := fun S0 Hb D hr hn σ H ⟨ls, s⟩ =>
  h1 _ σ H s.env (s.dc hd) _ fun v H1 e p x r => by
    have s1 := s.xd hd x
    exact h2 _ σ H1 s1.env (s1.dc hd) _ fun v2 H2 e2 p2 x2 r2 => by
      have s2 := s1.xd hd x2
      exact ⟨v, v2, rfl, hn _ _ _ _ (hN e e2 p p2) ⟨ls, (s2.set (rep_mono (x2.vw (s1.dc hd)) r) hi).set r2 hj⟩⟩
theorem em_appendR {k i : Nat} {ds : List PyData} (hd : G.dd = some d) (hk : om[k]? = some (i, ds)) (h : Er G te ρ P) (hP : ∀ e, P e → ∃ x, e = .dat x) (hz : ds.length < 100000) (hN : ∀ x, P (.dat x) → N ρ (om.set k (i, ds ++ [x]))) :
    Em G (tDrop (tBM G.K "list" rAppend (tVar i) (tCons te tNil))) ρ om R N := fun S0 Hb D hr hn σ H ⟨ls, s⟩ => by
  obtain ⟨l, xs, h1, h2, h3, h4⟩ := s.own k i ds hk
  refine ⟨_, h2, .inl ⟨rfl, xs, .inl (.inl h3)⟩, h _ σ H s.env (s.dc hd) _ fun v H' e p x r => ?_⟩
  have s' := s.xd hd x
  obtain ⟨y, rfl⟩ := hP e p
  have h3' : H' l = some (.lst xs) := x.1 _ _ (fun z => (s.new l (List.mem_of_getElem? h1)).2 (s.dice l z.symm).1) h3
  refine ⟨l, xs, v, rfl, rfl, h3', by rw [dpAll_len h4]; exact sz_lt hz, hn _ _ _ _ (hN y p) ⟨ls, s'.upd hk h1 (dpAll_append (dpAll_mono (x.vw (s.dc hd)) _ _ h4) (.cons r .nil))⟩⟩
theorem em_ifR (hd : G.dd = some d) (h : Ert G tt ρ (fun _ => True)) (h1 : Em G t ρ om R N) (h2 : Em G u ρ om R N) : Em G (tIfS tt t u) ρ om R N := fun S0 Hb D hr hn σ H ⟨ls, s⟩ =>
  h _ σ H s.env (s.dc hd) _ fun b H' _ x => by
    cases b with
    | true => exact h1 S0 Hb D hr hn σ H' ⟨ls, s.xd hd x⟩
    | false => exact h2 S0 Hb D hr hn σ H' ⟨ls, s.xd hd x⟩
end
end Ek
end

section
set_option Elab.async false
set_option linter.all false
set_option maxRecDepth 100000
set_option maxHeartbeats 4000000
namespace Ek
open PySem PySem.Spec PyProof.Rows L2 K18
open Evl (Ex ex_rd ex_l ex_t fresh_back sz_of sz_lt)
theorem Zo.dd {G : Gd} {mg : Str → Option Value} (Z : Zo G mg) (o : Option Addr) : Zo { G with dd := o } mg := ⟨Z.c, Z.b, Z.s0, Z.s1, Z.s2, Z.s3, Z.r0, Z.iz, Z.ib, Z.gz, Z.gb, Z.kzz, Z.kbb, Z.ktb, Z.nf⟩
section
variable {G : Gd} {ρ ρ1 : Rho} {om : Om} {ta tb te : TE} {tr : TA} {tt : TT} {s1 t u : TS} {x y : Ent} {P R : Ent → Prop} {Ps : List Ent → Prop} {N : Rho → Om → Prop} {d : Addr} {i j n : Nat}
theorem em_sgate (h : Et G tt (shw ρ om) false) (h2 : Em G u ρ om R N) : Em G (tSeq (tIfS tt s1 tNext) u) ρ om R N := em_seq (N1 := fun ρ' om' => ρ' = ρ ∧ om' = om) (em_gate h ⟨rfl, rfl⟩) fun _ _ ⟨a, b⟩ => by subst a; subst b; exact h2
theorem em_sasg (ρ1 : Rho) (h : Ev G te ρ x) (hi : i ∉ slots om) (e : ρ.set i (some x) = ρ1) (h2 : Em G u ρ1 om R N) : Em G (tSeq (tAsg te (gName i)) u) ρ om R N := em_seq (N1 := fun ρ' om' => ρ' = ρ1 ∧ om' = om) (em_asg h hi ⟨e, rfl⟩) fun _ _ ⟨a, b⟩ => by subst a; subst b; exact h2
theorem em_spar (ρ1 : Rho) (h : Ea G tr ρ [x, y]) (hi : i ∉ slots om) (hj : j ∉ slots om) (e : (ρ.set i (some x)).set j (some y) = ρ1) (h2 : Em G u ρ1 om R N) : Em G (tSeq (tPar i j tr) u) ρ om R N := em_seq (N1 := fun ρ' om' => ρ' = ρ1 ∧ om' = om) (em_parDD h hi hj ⟨e, rfl⟩) fun _ _ ⟨a, b⟩ => by subst a; subst b; exact h2
theorem em_sasgR (hd : G.dd = some d) (h : Er G te ρ P) (hi : i ∉ slots om) (h2 : ∀ e, P e → Em G u (ρ.set i (some e)) om R N) : Em G (tSeq (tAsg te (gName i)) u) ρ om R N := em_seq (N1 := fun ρ' om' => (∃ e, P e ∧ ρ' = ρ.set i (some e)) ∧ om' = om) (em_asgR hd h hi fun e p => ⟨⟨e, p, rfl⟩, rfl⟩) fun _ _ ⟨⟨e, p, a⟩, b⟩ => by subst a; subst b; exact h2 e p
theorem em_asgTR {g : TG} {js : List Nat} (hd : G.dd = some d) (h : Er G te ρ P) (ht : ∀ e, P e → ∃ ρ1, Tg G g js ρ e ρ1 ∧ N ρ1 om) (hdj : ∀ j ∈ js, j ∉ slots om) : Em G (tAsg te g) ρ om R N := fun S0 Hb D hr hn σ H ⟨ls, s⟩ =>
  h _ σ H s.env (s.dc hd) _ fun v H' e p x r => by
    have s' := s.xd hd x
    obtain ⟨ρ1, h1, h2⟩ := ht e p
    refine h1 _ v σ H' s'.env r _ fun σ' E' _ k => hn _ _ _ _ h2 ⟨ls, E', s'.base, s'.new, s'.nd, s'.len, fun n i ds hk => ?_, s'.dice⟩
    obtain ⟨l, xs, q1, q2, q3, q4⟩ := s'.own n i ds hk
    exact ⟨l, xs, q1, by rw [k i fun z => hdj i z (List.mem_map.mpr ⟨(i, ds), List.mem_of_getElem? hk, rfl⟩)]; exact q2, q3, q4⟩
theorem er_tup {Pl : List PyData → Prop} (h : Era G tr ρ Ps) (hp : ∀ es, Ps es → ∃ ds : List PyData, es = ds.map .dat ∧ ds.length ≤ 1000 ∧ Pl ds) : Er G (tTup tr) ρ (fun e => ∃ ds, Pl ds ∧ e = .dat (.tuple ds)) := fun S σ H E c Q q => h S σ H E c _ fun vs H1 es ps x1 r1 => by
  obtain ⟨ds, e, hl, hpl⟩ := hp es ps
  subst e
  have ha := dpAll_of_repL r1
  refine ⟨by rw [dpAll_len ha]; exact sz_of (by omega), fun p hp => q _ _ _ ⟨ds, hpl, rfl⟩ (x1.trans (Xd.of (c.xd x1) (Ex.new hp))) (.tup (.inl (.inl (vw_at (x1.dom c E.dom) hp))) (dpAll_mono (vw_ex_new hp) _ _ ha))⟩
/-- a def that only reads, handed what was drawn -/
theorem er_callE {Rr : List Ent → Ent → Prop} (h : Era G tr ρ Ps) (hR : ∀ es, Ps es → es.length = n ∧ es.all noDie = true ∧ ∃ y, Rr es y ∧ noDie y = true ∧ P y) : Er G (tCall (spE G n Rr) [] E0 tr) ρ P := fun S σ H E c Q q => h S σ H E c _ fun vs H1 es ps x1 r1 => by
  rw [List.append_nil]
  obtain ⟨h1, h2, y, h3, h4, h5⟩ := hR es ps
  exact ⟨by rw [Paired.length r1]; exact h1, S, es, y, x1.dom c E.dom, repL_dd h2 r1, h3, fun v H2 e2 r2 => q v H2 y h5 (x1.trans (Xd.of (c.xd x1) e2)) (rep_du h4 r2)⟩
end
/-- if not f(dice): return ..; the dice an own list of three; f's answer is True -/
theorem em_roll {G : Gd} {ρ : Rho} {om : Om} {i : Nat} {x y z : Int} {R : Ent → Prop} {N : Rho → Om → Prop} {s1 : TS} {Rr : List Ent → (Ent → Prop) → Prop} (hR : Rr [.dice] (fun e => e = .dat (.bool true))) (hN : ∀ x y z : Int, N ρ ((i, [.int x, .int y, .int z]) :: om)) :
    Em G (tIfS (tNot (tB (tCall (spR G 1 Rr) [] E0 (tCons (tVar i) tNil)))) s1 tNext) ρ ((i, [.int x, .int y, .int z]) :: om) R N := fun S0 Hb D hr hn σ H ⟨ls, s⟩ => by
  obtain ⟨l, xs, h1, h2, h3, h4⟩ := s.own 0 i _ rfl
  have ex : xs = [.int x, .int y, .int z] := ints_of [x, y, z] h4
  subst ex
  have ml : l ∈ ls := List.mem_of_getElem? h1
  have nl := s.new l ml
  refine ⟨_, h2, ?_⟩
  refine ⟨rfl, l, ls ++ S0, [.dice], (fun e => e = .dat (.bool true)), List.mem_append_left _ ml, ⟨x, y, z, h3⟩, s.env.dom, .cons ⟨l, rfl, rfl⟩ .nil, hR, fun v H' e pe xd rep => ?_⟩
  subst pe
  refine ⟨true, dp_bool rep, ?_⟩
  show D.nx σ H'
  obtain ⟨x', y', z', hl'⟩ := xd.2 l rfl
  have keep : ∀ a o, a ≠ l → H a = some o → H' a = some o := fun a o n h => xd.1 a o (fun q => n (Option.some.inj q)) h
  have up : Ex (vw (ls ++ S0) H) (vw (ls ++ S0) H') := fun a o h => by
    obtain ⟨k1, k2⟩ := vw_some h
    rw [vw_out k1]
    exact keep a o (fun q => k1 (by rw [q]; exact List.mem_append_left _ ml)) k2
  refine hn _ _ _ _ (hN x' y' z') ⟨ls, s.env.view (fun a ha => ?_) up, fun a o n h => ?_, s.new, s.nd, s.len, fun k j ds hk => ?_, fun d hd => ?_⟩
  · by_cases q : a = l
    · subst q
      rw [hl']
      exact fun z => nomatch z
    · cases q2 : H a with
      | none => exact absurd q2 (s.env.dom a ha)
      | some o =>
        rw [keep a o q q2]
        exact fun z => nomatch z
  · exact keep a o (fun q => by rw [q, nl.1] at h; cases h) (s.base a o n h)
  · cases k with
    | zero =>
      cases hk
      exact ⟨l, [.int x', .int y', .int z'], h1, h2, hl', .cons (.int _) (.cons (.int _) (.cons (.int _) .nil))⟩
    | succ k =>
      obtain ⟨l2, ys, q1, q2, q3, q4⟩ := s.own (k + 1) j ds (by simpa using hk)
      have ne : l2 ≠ l := fun z => by
        subst z
        have := nd_ix s.nd q1 h1
        cases this
      exact ⟨l2, ys, q1, q2, keep _ _ ne q3, dpAll_mono up _ _ q4⟩
  · obtain ⟨k1, a, b, c, k2⟩ := s.dice d hd
    exact ⟨k1, a, b, c, keep _ _ (fun q => nl.2 (q ▸ k1)) k2⟩
end Ek
end

section
set_option Elab.async false
set_option linter.all false
set_option maxRecDepth 100000
set_option maxHeartbeats 4000000
namespace Ek
open PySem PySem.Spec PyProof.Rows L2 K18
open Evl (Ex ex_rd ex_l ex_t fresh_back sz_of sz_lt)
abbrev eI (i : Int) : Ent := .dat (.int i)
abbrev eB (b : Bool) : Ent := .dat (.bool b)
abbrev eN : Ent := .dat .none
abbrev eO (o : OI) : Ent := .dat (oi o)
section
variable {P : Program} {w : World} {mg : Str → Option Value} {base : Heap} {G : Gd}
def R_is_whole (es : List Ent) (y : Ent) : Prop := ∃ i, es = [eI i] ∧ y = eB true
abbrev s_is_whole : Stmt := (topS 10)
abbrev N_is_whole : List Str := ["value"]
theorem sc_is_whole : FnScope N_is_whole ["value"] (defScope s_is_whole) := ⟨rfl, rfl, rfl, by decide +kernel, rfl, by decide +kernel, by decide +kernel⟩
theorem ok_is_whole {f : Addr} {fd : FuncData} (F : Fun G.K "is_whole" "is_whole" s_is_whole f fd) (B : Bi mg)   : FnOk P w G.K mg base CX0 1 f fd ["value"] (spE G 1 R_is_whole) := by
  refine F.ok sc_is_whole (fun vs H Q E h => h.1) (fun cdv A outer s H vs Q E hr h => ⟨_, (pss_one (ps_ret (pe_and (pe_callB (Kv.call_isiK G.K) (by rfl) B.isinstance (by decide +kernel) (pa_cons (pv 0) (pa_cons (pe_bltn (v := .ty "int") (u := .type "int") (by rfl) B.int (by decide +kernel) rfl) pa_nil))) (pe_one (pe_not (pe_callB (Kv.call_isiK G.K) (by rfl) B.isinstance (by decide +kernel) (pa_cons (pv 0) (pa_cons (pe_bltn (v := .ty "bool") (u := .type "bool") (by rfl) B.bool (by decide +kernel) rfl) pa_nil)))))))), ?_⟩)
  obtain ⟨_, S, es, y, dm, rl, hR, kk⟩ := h
  refine fn_run dm rl kk ?_
  clear kk rl dm
  obtain ⟨i, rfl, rfl⟩ := hR
  exact em_ret (ev_andV (ev_isiI (ev_var rfl)) fun _ => ev_notV (ev_isiIb (ev_var rfl))) rfl
def R_is_short (es : List Ent) (y : Ent) : Prop := ∃ i : Int, es = [eI i] ∧ -10 ^ 60 < i ∧ i < 10 ^ 60 ∧ y = eB true
abbrev s_is_short : Stmt := (topS 11)
abbrev N_is_short : List Str := ["value"]
theorem sc_is_short : FnScope N_is_short ["value"] (defScope s_is_short) := ⟨rfl, rfl, rfl, by decide +kernel, rfl, by decide +kernel, by decide +kernel⟩
theorem ok_is_short {f : Addr} {fd : FuncData} (F : Fun G.K "is_short" "is_short" s_is_short f fd) (B : Bi mg)  (h_is_whole : Has P w G.K mg base "is_whole" 1 ["value"] (spE G 1 R_is_whole)) : FnOk P w G.K mg base CX0 2 f fd ["value"] (spE G 1 R_is_short) := by
  refine F.ok sc_is_short (fun vs H Q E h => h.1) (fun cdv A outer s H vs Q E hr h => ⟨_, (pss_one (ps_ret (pe_and (pe_fn h_is_whole hr (by decide) (pa_cons (pv 0) pa_nil)) (pe_one (pe_chain op_lt op_lt (pe_un un_neg (pe_gi B.g_GREATEST)) (pv 0) (pe_gi B.g_GREATEST)))))), ?_⟩)
  obtain ⟨_, S, es, y, dm, rl, hR, kk⟩ := h
  refine fn_run dm rl kk ?_
  clear kk rl dm
  obtain ⟨i, rfl, h1, h2, rfl⟩ := hR
  refine em_ret (ev_andV (ev_call (ea_cons (ev_var rfl) ea_nil) ⟨i, rfl, rfl⟩) fun _ => ev_chain (ev_neg ev_int) (ev_var rfl) ro_B0 fun _ => ⟨ev_int, ro_B0⟩) ?_
  simp only [decide_eq_true h1, decide_eq_true h2, Bool.and_self]
def R_is_from (es : List Ent) (y : Ent) : Prop := ∃ i j k : Int, es = [eI i, eI j, eI k] ∧ y = eB (decide (j ≤ i) && decide (i ≤ k))
abbrev s_is_from : Stmt := (topS 12)
abbrev N_is_from : List Str := ["value", "least", "most"]
theorem sc_is_from : FnScope N_is_from ["value", "least", "most"] (defScope s_is_from) := ⟨rfl, rfl, rfl, by decide +kernel, rfl, by decide +kernel, by decide +kernel⟩
theorem ok_is_from {f : Addr} {fd : FuncData} (F : Fun G.K "is_from" "is_from" s_is_from f fd) (B : Bi mg)  (h_is_whole : Has P w G.K mg base "is_whole" 1 ["value"] (spE G 1 R_is_whole)) : FnOk P w G.K mg base CX0 2 f fd ["value", "least", "most"] (spE G 3 R_is_from) := by
  refine F.ok sc_is_from (fun vs H Q E h => h.1) (fun cdv A outer s H vs Q E hr h => ⟨_, (pss_one (ps_ret (pe_and (pe_fn h_is_whole hr (by decide) (pa_cons (pv 0) pa_nil)) (pe_one (pe_chain op_le op_le (pv 1) (pv 0) (pv 2)))))), ?_⟩)
  obtain ⟨_, S, es, y, dm, rl, hR, kk⟩ := h
  refine fn_run dm rl kk ?_
  clear kk rl dm
  obtain ⟨i, j, k, rfl, rfl⟩ := hR
  exact em_ret (ev_andV (ev_call (ea_cons (ev_var rfl) ea_nil) ⟨i, rfl, rfl⟩) fun _ => ev_chain (ev_var rfl) (ev_var rfl) ro_B0 fun _ => ⟨(ev_var rfl), ro_B0⟩) rfl
def R_require_from (es : List Ent) (y : Ent) : Prop := ∃ i j k : Int, es = [eI i, eI j, eI k] ∧ j ≤ i ∧ i ≤ k ∧ y = eN
abbrev s_require_from : Stmt := (topS 13)
abbrev N_require_from : List Str := ["value", "least", "most"]
theorem sc_require_from : FnScope N_require_from ["value", "least", "most"] (defScope s_require_from) := ⟨rfl, rfl, rfl, by decide +kernel, rfl, by decide +kernel, by decide +kernel⟩
theorem ok_require_from {f : Addr} {fd : FuncData} (F : Fun G.K "require_from" "require_from" s_require_from f fd) (B : Bi mg)  (h_is_from : Has P w G.K mg base "is_from" 2 ["value", "least", "most"] (spE G 3 R_is_from)) : FnOk P w G.K mg base CX0 3 f fd ["value", "least", "most"] (spE G 3 R_require_from) := by
  refine F.ok sc_require_from (fun vs H Q E h => h.1) (fun cdv A outer s H vs Q E hr h => ⟨_, (pss_one (ps_if (pt_not (pt_val (pe_fn h_is_from hr (by decide) (pa_cons (pv 0) (pa_cons (pv 1) (pa_cons (pv 2) pa_nil)))))) (pss_one ps_never) pss_nil)), ?_⟩)
  obtain ⟨_, S, es, y, dm, rl, hR, kk⟩ := h
  refine fn_run dm rl kk ?_
  clear kk rl dm
  obtain ⟨i, j, k, rfl, h1, h2, rfl⟩ := hR
  refine em_if (et_not (et_test (ev_call (ea_cons (ev_var rfl) (ea_cons (ev_var rfl) (ea_cons (ev_var rfl) ea_nil))) ⟨i, j, k, rfl, rfl⟩))) (fun z => ?_) (fun _ => em_next rfl)
  rw [decide_eq_true h1, decide_eq_true h2] at z
  cases z
/-! ### fractions -/
def R_shared_in (es : List Ent) (y : Ent) : Prop := ∃ m n : Nat, es = [eI m, eI n] ∧ y = eI ((Nat.gcd m n : Nat) : Int)
abbrev s_shared_in : Stmt := (topS 16)
abbrev N_shared_in : List Str := ["one", "other"]
theorem sc_shared_in : FnScope N_shared_in ["one", "other"] (defScope s_shared_in) := ⟨rfl, rfl, rfl, by decide +kernel, rfl, by decide +kernel, by decide +kernel⟩
theorem ok_shared_in {f : Addr} {fd : FuncData} (F : Fun G.K "shared_in" "shared_in" s_shared_in f fd) (B : Bi mg)   : FnOk P w G.K mg base CX0 1 f fd ["one", "other"] (spE G 2 R_shared_in) := by
  refine F.ok sc_shared_in (fun vs H Q E h => h.1) (fun cdv A outer s H vs Q E hr h => ⟨_, (pss_cons (ps_while PassesOwn.never (pt_cmpR op_gt (pv 1) pe_int (nomark _)) (pss_one (ps_par (i := 0) (j := 1) (by rfl) sc_shared_in.nd rfl rfl (by decide) rfl rfl (pa_cons (pv 1) (pa_cons (pe_op op_mod (pv 0) (pv 1)) pa_nil)) (by rfl))))
      (pss_one (ps_ret (pv 0)))), ?_⟩)
  obtain ⟨_, S, es, y, dm, rl, hR, kk⟩ := h
  refine fn_run dm rl kk ?_
  clear kk rl dm
  obtain ⟨m, n, rfl, rfl⟩ := hR
  refine em_seq (N1 := fun ρ om => ρ = [some (eI ((Nat.gcd m n : Nat) : Int)), some (eI 0)] ∧ om = []) (em_while (fun k ρ om => ∃ a b : Nat, ρ = [some (eI a), some (eI b)] ∧ om = [] ∧ Nat.gcd a b = Nat.gcd m n ∧ k = b) n ⟨m, n, rfl, rfl, rfl, rfl⟩ ?_) ?_
  · rintro k ρ om ⟨a, b, rfl, rfl, hg, rfl⟩
    refine ⟨_, et_test (ev_B0 (ev_var rfl) ev_int), fun h => ?_, fun h => ?_⟩
    · have hb : (0 : Int) < k := of_decide_eq_true h
      refine em_parDD (ea_cons (ev_var rfl) (ea_cons (ev_I (ev_var rfl) (ev_var rfl) hb) ea_nil)) (by simp [slots]) (by simp [slots]) ⟨a % k, Nat.mod_lt _ (by omega), k, a % k, ?_, rfl, ?_, rfl⟩
      · show [some (eI (k : Int)), some (eI ((a : Int) % (k : Int)))] = _
        rw [Int.natCast_emod]
      · rw [Nat.gcd_comm k, ← Nat.gcd_rec, Nat.gcd_comm]
        exact hg
    · have hb : ¬ (0 : Int) < k := of_decide_eq_false h
      have e : k = 0 := by omega
      subst e
      rw [Nat.gcd_zero_right] at hg
      subst hg
      exact ⟨rfl, rfl⟩
  · rintro ρ om ⟨rfl, rfl⟩
    exact em_ret (ev_var rfl) rfl
/-- a fraction in its lowest form -/
def lowF (t : Int) (u : Nat) : Int × Int := (t / ((Nat.gcd t.natAbs u : Nat) : Int), (u : Int) / ((Nat.gcd t.natAbs u : Nat) : Int))
theorem abs_nat (t : Int) : (if t < 0 then -t else t) = ((t.natAbs : Nat) : Int) := by
  split <;> omega
theorem gcd_div {t : Nat} {u : Nat} (h : 0 < u) (h2 : u ≤ 64) : (0 : Int) < ((Nat.gcd t u : Nat) : Int) ∧ ((Nat.gcd t u : Nat) : Int) < 1073741824 := by
  have h3 := Nat.gcd_le_right t h
  have h4 := Nat.gcd_pos_of_pos_right t h
  omega
def R_lowest (es : List Ent) (y : Ent) : Prop := ∃ (t : Int) (u : Nat), es = [eI t, eI u] ∧ 0 < u ∧ u ≤ 64 ∧ y = .dat (frD (lowF t u))
abbrev s_lowest : Stmt := (topS 17)
abbrev N_lowest : List Str := ["top", "bottom", "shared"]
theorem sc_lowest : FnScope N_lowest ["top", "bottom"] (defScope s_lowest) := ⟨rfl, rfl, rfl, by decide +kernel, rfl, by decide +kernel, by decide +kernel⟩
theorem ok_lowest {f : Addr} {fd : FuncData} (F : Fun G.K "lowest" "lowest" s_lowest f fd) (B : Bi mg)  (h_shared_in : Has P w G.K mg base "shared_in" 1 ["one", "other"] (spE G 2 R_shared_in)) : FnOk P w G.K mg base CX0 2 f fd ["top", "bottom"] (spE G 2 R_lowest) := by
  refine F.ok sc_lowest (fun vs H Q E h => h.1) (fun cdv A outer s H vs Q E hr h => ⟨_, (pss_cons (ps_if (pt_cmpR op_lt (pv 1) pe_int (nomark _)) (pss_one (ps_par (i := 0) (j := 1) (by rfl) sc_lowest.nd rfl rfl (by decide) rfl rfl (pa_cons (pe_un un_neg (pv 0)) (pa_cons (pe_un un_neg (pv 1)) pa_nil)) (by rfl))) pss_nil)
      (pss_cons (ps_set (i := 2) sc_lowest.nd rfl (Or.inl rfl) (pe_fn h_shared_in hr (by decide) (pa_cons (pe_callB call_abs (by rfl) B.abs (by decide +kernel) (pa_cons (pv 0) pa_nil)) (pa_cons (pv 1) pa_nil))))
      (pss_one (ps_ret (pe_tup (pa_cons (pe_op op_fdiv (pv 0) (pv 2)) (pa_cons (pe_op op_fdiv (pv 1) (pv 2)) pa_nil))))))), ?_⟩)
  obtain ⟨_, S, es, y, dm, rl, hR, kk⟩ := h
  refine fn_run dm rl kk ?_
  clear kk rl dm
  obtain ⟨t, u, rfl, h0, h1, rfl⟩ := hR
  refine em_seq (N1 := fun ρ om => ρ = [some (eI t), some (eI u), none] ∧ om = []) (em_if (et_test (ev_B0 (ev_var rfl) ev_int)) (fun z => ?_) fun _ => em_next ⟨rfl, rfl⟩) ?_
  · have := of_decide_eq_true z
    omega
  rintro ρ om ⟨rfl, rfl⟩
  refine em_seq (N1 := fun ρ om => ρ = [some (eI t), some (eI u), some (eI ((Nat.gcd t.natAbs u : Nat) : Int))] ∧ om = []) (em_asg (ev_call (ea_cons (Ev.to (ev_cb (ea_cons (ev_var rfl) ea_nil) rc_abs) (by rw [abs_nat])) (ea_cons (ev_var rfl) ea_nil)) ⟨t.natAbs, u, rfl, rfl⟩) (by simp [slots]) ⟨rfl, rfl⟩) ?_
  rintro ρ om ⟨rfl, rfl⟩
  have hd := gcd_div (t := t.natAbs) h0 h1
  exact em_ret (ev_tup (ds := [.int _, .int _]) (ea_cons (ev_I (ev_var rfl) (ev_var rfl) hd) (ea_cons (ev_I (ev_var rfl) (ev_var rfl) hd) ea_nil)) (Nat.le_of_ble_eq_true rfl)) rfl
def R_is_fraction (es : List Ent) (y : Ent) : Prop := ∃ (a b : Int), es = [.dat (frD (a, b))] ∧ (-10 ^ 60 < a ∧ a < 10 ^ 60) ∧ (0 < b ∧ b < 10 ^ 60) ∧ Nat.gcd a.natAbs b.natAbs = 1 ∧ y = eB true
abbrev s_is_fraction : Stmt := (topS 18)
abbrev N_is_fraction : List Str := ["value"]
theorem sc_is_fraction : FnScope N_is_fraction ["value"] (defScope s_is_fraction) := ⟨rfl, rfl, rfl, by decide +kernel, rfl, by decide +kernel, by decide +kernel⟩
theorem ok_is_fraction {f : Addr} {fd : FuncData} (F : Fun G.K "is_fraction" "is_fraction" s_is_fraction f fd) (B : Bi mg)  (h_is_short : Has P w G.K mg base "is_short" 2 ["value"] (spE G 1 R_is_short)) (h_shared_in : Has P w G.K mg base "shared_in" 1 ["one", "other"] (spE G 2 R_shared_in)) : FnOk P w G.K mg base CX0 3 f fd ["value"] (spE G 1 R_is_fraction) := by
  refine F.ok sc_is_fraction (fun vs H Q E h => h.1) (fun cdv A outer s H vs Q E hr h => ⟨_, (pss_cons (ps_if (PW.pt (pw_or (pt_not (pt_val (pe_callB (Kv.call_isiK G.K) (by rfl) B.isinstance (by decide +kernel) (pa_cons (pv 0) (pa_cons (pe_bltn (v := .ty "tuple") (u := .type "tuple") (by rfl) B.tuple (by decide +kernel) rfl) pa_nil))))) (pw_or (pt_cmpR op_ne (pe_callB (Kv.call_lenK G.K) (by rfl) B.len (by decide +kernel) (pa_cons (pv 0) pa_nil)) (pe_gi B.g_PAIR) (nomark _)) (pw_or (pt_not (pt_val (pe_fn h_is_short hr (by decide) (pa_cons (pe_ix (Kv.ix_tupK G.K) (pv 0) pe_int (fun _ _ => rfl)) pa_nil)))) (pw_or1 (pt_not (pt_val (pe_fn h_is_short hr (by decide) (pa_cons (pe_ix (Kv.ix_tupK G.K) (pv 0) pe_int (fun _ _ => rfl)) pa_nil))))))))) (pss_one (ps_ret pe_bl)) pss_nil)
      (pss_one (ps_ret (pe_and (pe_cmpR op_gt (pe_ix (Kv.ix_tupK G.K) (pv 0) pe_int (fun _ _ => rfl)) pe_int (nomark _)) (pe_one (pe_cmpR op_eq (pe_fn h_shared_in hr (by decide) (pa_cons (pe_callB call_abs (by rfl) B.abs (by decide +kernel) (pa_cons (pe_ix (Kv.ix_tupK G.K) (pv 0) pe_int (fun _ _ => rfl)) pa_nil)) (pa_cons (pe_ix (Kv.ix_tupK G.K) (pv 0) pe_int (fun _ _ => rfl)) pa_nil))) pe_int (nomark _))))))), ?_⟩)
  obtain ⟨_, S, es, y, dm, rl, hR, kk⟩ := h
  refine fn_run dm rl kk ?_
  clear kk rl dm
  obtain ⟨a, b, rfl, ha, hb, hg, rfl⟩ := hR
  have eb : ((b.natAbs : Nat) : Int) = b := by omega
  refine em_seq (N1 := fun ρ om => ρ = [some (.dat (frD (a, b)))] ∧ om = []) (em_if (et_or (et_not (et_test (ev_isiT (ev_var rfl)))) fun _ => et_or (et_test (ev_neI (ev_cb (ea_cons (ev_var rfl) ea_nil) rc_lenT) ev_int)) fun _ => et_or (et_not (et_test (ev_call (ea_cons (ev_ixT (ev_var rfl) ev_int rfl) ea_nil) ⟨a, rfl, ha.1, ha.2, rfl⟩))) fun _ => et_not (et_test (ev_call (ea_cons (ev_ixT (ev_var rfl) ev_int rfl) ea_nil) ⟨b, rfl, by omega, hb.2, rfl⟩)))
    (fun z => ?_) fun _ => em_next ⟨rfl, rfl⟩) ?_
  · cases z
  rintro ρ om ⟨rfl, rfl⟩
  refine em_ret (ev_andV (ev_B0 (ev_ixT (ev_var rfl) ev_int rfl) ev_int) fun _ => ev_eqI (ev_call (ea_cons (Ev.to (ev_cb (ea_cons (ev_ixT (ev_var rfl) ev_int rfl) ea_nil) rc_abs) (by rw [abs_nat])) (ea_cons (Ev.to (ev_ixT (ev_var rfl) ev_int rfl) (by show eI b = eI _; rw [eb])) ea_nil)) ⟨a.natAbs, b.natAbs, rfl, rfl⟩) ev_int) ?_
  rw [hg, decide_eq_true hb.1]
  rfl
end
end Ek
end

section
set_option Elab.async false
set_option linter.all false
set_option maxRecDepth 100000
set_option maxHeartbeats 4000000
namespace Ek
open PySem PySem.Spec PyProof.Rows L2 K18
open Evl (Ex ex_rd ex_l ex_t fresh_back sz_of sz_lt)
section
variable {P : Program} {w : World} {mg : Str → Option Value} {base : Heap} {G : Gd}
def R_lesser (es : List Ent) (y : Ent) : Prop := ∃ a b : OI, es = [eO a, eO b] ∧ y = eO (lesserO a b)
abbrev s_lesser : Stmt := (topS 27)
abbrev N_lesser : List Str := ["one", "other"]
theorem sc_lesser : FnScope N_lesser ["one", "other"] (defScope s_lesser) := ⟨rfl, rfl, rfl, by decide +kernel, rfl, by decide +kernel, by decide +kernel⟩
theorem ok_lesser {f : Addr} {fd : FuncData} (F : Fun G.K "lesser" "lesser" s_lesser f fd) (B : Bi mg)   : FnOk P w G.K mg base CX0 1 f fd ["one", "other"] (spE G 2 R_lesser) := by
  refine F.ok sc_lesser (fun vs H Q E h => h.1) (fun cdv A outer s H vs Q E hr h => ⟨_, (pss_cons (ps_if (PW.pt (pw_or (pt_cmpR op_isN (pv 0) pe_non (nomark _)) (pw_or1 (pt_cmpR op_isN (pv 1) pe_non (nomark _))))) (pss_one (ps_ret (pe_ifExp (pt_cmpR op_isN (pv 0) pe_non (nomark _)) (pv 1) (pv 0)))) pss_nil)
      (pss_one (ps_ret (pe_callB (call_min2 rfl) (by rfl) B.min (by decide +kernel) (pa_cons (pv 0) (pa_cons (pv 1) pa_nil)))))), ?_⟩)
  obtain ⟨_, S, es, y, dm, rl, hR, kk⟩ := h
  refine fn_run dm rl kk ?_
  clear kk rl dm
  obtain ⟨a, b, rfl, rfl⟩ := hR
  refine em_seq (N1 := fun ρ om => (∃ i j, a = some i ∧ b = some j) ∧ ρ = [some (eO a), some (eO b)] ∧ om = []) (em_if (et_or (et_test (ev_isN (ev_var rfl))) fun _ => et_test (ev_isN (ev_var rfl))) (fun z => ?_) fun z => em_next ?_) ?_
  · cases a with
    | none => exact em_ret (ev_if (et_test (ev_isN (ev_var rfl))) (fun _ => (ev_var rfl)) fun z => Bool.noConfusion z) rfl
    | some i =>
      cases b with
      | none => exact em_ret (ev_if (et_test (ev_isN (ev_var rfl))) (fun z => Bool.noConfusion z) fun _ => (ev_var rfl)) rfl
      | some j => cases z
  · cases a with
    | none => cases z
    | some i =>
      cases b with
      | none => cases z
      | some j => exact ⟨⟨i, j, rfl, rfl⟩, rfl, rfl⟩
  · rintro ρ om ⟨⟨i, j, rfl, rfl⟩, rfl, rfl⟩
    exact em_ret (ev_cb (ea_cons (ev_var rfl) (ea_cons (ev_var rfl) ea_nil)) rc_min2) rfl
def R_is_at_most (es : List Ent) (y : Ent) : Prop := ∃ a b : OI, es = [eO a, eO b] ∧ y = eB (leO a b)
abbrev s_is_at_most : Stmt := (topS 28)
abbrev N_is_at_most : List Str := ["one", "other"]
theorem sc_is_at_most : FnScope N_is_at_most ["one", "other"] (defScope s_is_at_most) := ⟨rfl, rfl, rfl, by decide +kernel, rfl, by decide +kernel, by decide +kernel⟩
theorem ok_is_at_most {f : Addr} {fd : FuncData} (F : Fun G.K "is_at_most" "is_at_most" s_is_at_most f fd) (B : Bi mg)   : FnOk P w G.K mg base CX0 1 f fd ["one", "other"] (spE G 2 R_is_at_most) := by
  refine F.ok sc_is_at_most (fun vs H Q E h => h.1) (fun cdv A outer s H vs Q E hr h => ⟨_, (pss_one (ps_ret (pe_or (pe_cmpR op_isN (pv 1) pe_non (nomark _)) (pe_one (pe_and (pe_cmpR op_notN (pv 0) pe_non (nomark _)) (pe_one (pe_cmpR op_le (pv 0) (pv 1) (nomark _)))))))), ?_⟩)
  obtain ⟨_, S, es, y, dm, rl, hR, kk⟩ := h
  refine fn_run dm rl kk ?_
  clear kk rl dm
  obtain ⟨a, b, rfl, rfl⟩ := hR
  cases b with
  | none => exact em_ret (ev_orT (ev_isNb (ev_var rfl))) (by cases a <;> rfl)
  | some j =>
    cases a with
    | none => exact em_ret (ev_orF (ev_isNb (ev_var rfl)) (ev_andF (ev_notNb (ev_var rfl)))) rfl
    | some i => exact em_ret (ev_orV (ev_isN (ev_var rfl)) fun _ => ev_andV (ev_notN (ev_var rfl)) fun _ => ev_B0 (ev_var rfl) (ev_var rfl)) rfl
def R_added (es : List Ent) (y : Ent) : Prop := ∃ a b : OI, es = [eO a, eO b] ∧ y = eO (addO a b)
abbrev s_added : Stmt := (topS 29)
abbrev N_added : List Str := ["one", "other"]
theorem sc_added : FnScope N_added ["one", "other"] (defScope s_added) := ⟨rfl, rfl, rfl, by decide +kernel, rfl, by decide +kernel, by decide +kernel⟩
theorem ok_added {f : Addr} {fd : FuncData} (F : Fun G.K "added" "added" s_added f fd) (B : Bi mg)   : FnOk P w G.K mg base CX0 1 f fd ["one", "other"] (spE G 2 R_added) := by
  refine F.ok sc_added (fun vs H Q E h => h.1) (fun cdv A outer s H vs Q E hr h => ⟨_, (pss_one (ps_ret (pe_ifExp (PW.pt (pw_or (pt_cmpR op_isN (pv 0) pe_non (nomark _)) (pw_or1 (pt_cmpR op_isN (pv 1) pe_non (nomark _))))) pe_non (pe_op op_add (pv 0) (pv 1))))), ?_⟩)
  obtain ⟨_, S, es, y, dm, rl, hR, kk⟩ := h
  refine fn_run dm rl kk ?_
  clear kk rl dm
  obtain ⟨a, b, rfl, rfl⟩ := hR
  cases a with
  | none => exact em_ret (ev_ifT (et_orT (et_test (ev_isNb (ev_var rfl)))) ev_non) rfl
  | some i =>
    cases b with
    | none => exact em_ret (ev_if (et_or (et_test (ev_isN (ev_var rfl))) fun _ => et_test (ev_isN (ev_var rfl))) (fun _ => ev_non) fun z => Bool.noConfusion z) rfl
    | some j => exact em_ret (ev_if (et_or (et_test (ev_isN (ev_var rfl))) fun _ => et_test (ev_isN (ev_var rfl))) (fun z => Bool.noConfusion z) fun _ => ev_I0 (ev_var rfl) (ev_var rfl)) rfl
def R_counted_at (es : List Ent) (y : Ent) : Prop := ∃ (n : Nat) (m : Mat) (i j : Nat), es = [.dat (matD m), eI i, eI j] ∧ Sq n m ∧ i < n ∧ j < n ∧ y = eO (countedAt m i j)
abbrev s_counted_at : Stmt := (topS 30)
abbrev N_counted_at : List Str := ["bounds", "first", "last", "one"]
theorem sc_counted_at : FnScope N_counted_at ["bounds", "first", "last"] (defScope s_counted_at) := ⟨rfl, rfl, rfl, by decide +kernel, rfl, by decide +kernel, by decide +kernel⟩
theorem ok_counted_at {f : Addr} {fd : FuncData} (F : Fun G.K "counted_at" "counted_at" s_counted_at f fd) (B : Bi mg)  (h_lesser : Has P w G.K mg base "lesser" 1 ["one", "other"] (spE G 2 R_lesser)) : FnOk P w G.K mg base CX0 2 f fd ["bounds", "first", "last"] (spE G 3 R_counted_at) := by
  refine F.ok sc_counted_at (fun vs H Q E h => h.1) (fun cdv A outer s H vs Q E hr h => ⟨_, (pss_cons (ps_set (i := 3) sc_counted_at.nd rfl (Or.inl rfl) (pe_ix (Kv.ix_tupK G.K) (pe_ix (Kv.ix_tupK G.K) (pv 0) (pv 1) (fun _ _ => rfl)) (pv 2) (fun _ _ => rfl)))
      (pss_one (ps_ret (pe_ifExp (pt_cmpR (Kv.op_inK G.K) (pv 1) (pe_tup (pa_cons pe_int (pa_cons (pv 2) pa_nil))) (by with_unfolding_all rfl)) (pe_fn h_lesser hr (by decide) (pa_cons (pv 3) (pa_cons pe_int pa_nil))) (pv 3))))), ?_⟩)
  obtain ⟨_, S, es, y, dm, rl, hR, kk⟩ := h
  refine fn_run dm rl kk ?_
  clear kk rl dm
  obtain ⟨n, m, i, j, rfl, sq, hi, hj, rfl⟩ := hR
  refine em_seq (N1 := fun ρ om => ρ = [some (.dat (matD m)), some (eI i), some (eI j), some (eO (ent m i j))] ∧ om = []) (em_asg (ev_ixT (ev_ixT (ev_var rfl) (ev_var rfl) (at_mat sq hi)) (ev_var rfl) (at_ent sq hi hj)) (by simp [slots]) ⟨rfl, rfl⟩) ?_
  rintro ρ om ⟨rfl, rfl⟩
  refine em_ret (ev_if (et_test (ev_in (ev_var rfl) (.inl (ev_tup (ds := [.int 0, .int j]) (ea_cons ev_int (ea_cons (ev_var rfl) ea_nil)) (Nat.le_of_ble_eq_true rfl))) rfl rfl false)) (fun z => Ev.to (ev_call (ea_cons (ev_var rfl) (ea_cons ev_int ea_nil)) ⟨_, some 0, rfl, rfl⟩) ?_) fun z => Ev.to (ev_var rfl) ?_) rfl
  · have : i = 0 ∨ i = j := by
      have z' : ((0 : Int) == (i : Int) || ((j : Int) == (i : Int) || false)) = true := z
      simp only [Bool.or_false, Bool.or_eq_true, beq_iff_eq] at z'
      omega
    unfold countedAt
    rw [if_pos this]
  · have : ¬ (i = 0 ∨ i = j) := by
      have z' : ((0 : Int) == (i : Int) || ((j : Int) == (i : Int) || false)) = false := z
      simp only [Bool.or_false, Bool.or_eq_false_iff, beq_eq_false_iff_ne] at z'
      omega
    unfold countedAt
    rw [if_neg this]
def R_counted (es : List Ent) (y : Ent) : Prop := ∃ (n : Nat) (m : Mat), es = [.dat (matD m)] ∧ Sq n m ∧ n ≤ 100 ∧ y = .dat (lmD (counted n m))
theorem lmD_tab (n : Nat) (F : Nat → Nat → OI) : lmD (tab n F) = .list ((List.range n).map fun i => .list ((List.range n).map fun j => oi (F i j))) := by
  unfold lmD tab
  rw [List.map_map]
  refine congrArg PyData.list (List.map_congr_left fun i _ => ?_)
  show PyData.list (((List.range n).map (F i)).map oi) = _
  rw [List.map_map]
  rfl
abbrev s_counted : Stmt := (topS 31)
abbrev N_counted : List Str := ["bounds", "places", "first", "last"]
theorem sc_counted : FnScope N_counted ["bounds"] (defScope s_counted) := ⟨rfl, rfl, rfl, by decide +kernel, rfl, by decide +kernel, by decide +kernel⟩
theorem ok_counted {f : Addr} {fd : FuncData} (F : Fun G.K "counted" "counted" s_counted f fd) (B : Bi mg)  (h_counted_at : Has P w G.K mg base "counted_at" 2 ["bounds", "first", "last"] (spE G 3 R_counted_at)) : FnOk P w G.K mg base CX0 3 f fd ["bounds"] (spE G 1 R_counted) := by
  refine F.ok sc_counted (fun vs H Q E h => h.1) (fun cdv A outer s H vs Q E hr h => ⟨_, (pss_cons (ps_set (i := 1) sc_counted.nd rfl (Or.inr rfl) (pe_listRg rfl (by rfl) B.list (prg_1 (by rfl) B.range (pe_callB (Kv.call_lenK G.K) (by rfl) B.len (by decide +kernel) (pa_cons (pv 0) pa_nil)))))
      (pss_one (ps_ret (pe_lc rfl sc_counted.nd (Kv.pi_listK G.K (pv 1)) (blkOk_by (own := [("first", 2)]) (N := N_counted) (sc := (defScope s_counted)) (by decide +kernel)) (fun _ _ _ _ _ => (pg_name (i := 2) sc_counted.nd rfl (Or.inr rfl))) (fun _ _ _ _ _ => pts_nil) (fun _ _ _ _ _ => (pe_lc rfl sc_counted.nd (Kv.pi_listK G.K (pv 1)) (blkOk_by (own := [("last", 3)]) (N := N_counted) (sc := (relS { kind := PySem.ScopeKind.function, names := [ (PySem.Str.ofString ".0", PySem.NameKind.local), (PySem.Str.ofString "first", PySem.NameKind.cell), (PySem.Str.ofString "bounds", PySem.NameKind.free), (PySem.Str.ofString "places", PySem.NameKind.free)], isGenerator := false, isCoroutine := false, more := [] : PySem.Scope } (defScope s_counted))) (by decide +kernel)) (fun _ _ _ _ _ => (pg_name (i := 3) sc_counted.nd rfl (Or.inl rfl))) (fun _ _ _ _ _ => pts_nil) (fun _ _ _ _ _ => (pe_fn h_counted_at hr (by decide) (pa_cons (pv 0) (pa_cons (pv 2) (pa_cons (pv 3) pa_nil))))))))))), ?_⟩)
  obtain ⟨_, S, es, y, dm, rl, hR, kk⟩ := h
  refine fn_run dm rl kk ?_
  clear kk rl dm
  obtain ⟨n, m, rfl, sq, hn, rfl⟩ := hR
  have hl : (m.map rowD).length = n := by rw [List.length_map]; exact sq.len
  refine em_seq (N1 := fun ρ om => ρ = [some (.dat (matD m)), some (.dat (.list ((List.range n).map fun (i : Nat) => .int (i : Int)))), none, none] ∧ om = []) (em_asg (El.ed (el_rng (n := n) (Ev.to (ev_cb (ea_cons (ev_var rfl) ea_nil) rc_lenT) (by rw [hl])) (by omega))) (by simp [slots]) ⟨rfl, rfl⟩) ?_
  rintro ρ om ⟨rfl, rfl⟩
  refine em_ret (El.ed (el_lc (js := [2]) (l := List.range n) (enc := fun i => eI i) (fun i => .list ((List.range n).map fun j => oi (countedAt m i j))) (sr_lstM (ev_var rfl)) (by rw [List.length_range]; omega) (by simp) fun i hi => ⟨_, tg_name, El.ed (el_lc (js := [3]) (l := List.range n) (enc := fun i => eI i) (fun j => oi (countedAt m i j)) (sr_lstM (ev_var rfl)) (by rw [List.length_range]; omega) (by simp) fun j hj => ⟨_, tg_name, ev_call (ea_cons (ev_var rfl) (ea_cons (ev_var rfl) (ea_cons (ev_var rfl) ea_nil))) ⟨n, m, i, j, rfl, sq, List.mem_range.mp hi, List.mem_range.mp hj, rfl⟩⟩)⟩)) ?_
  unfold counted
  rw [lmD_tab]
end
end Ek
end

section
set_option Elab.async false
set_option linter.all false
set_option maxRecDepth 100000
set_option maxHeartbeats 4000000
namespace Ek
open PySem PySem.Spec PyProof.Rows L2 K18
open Evl (Ex ex_rd ex_l ex_t fresh_back sz_of sz_lt)
section
variable {P : Program} {w : World} {mg : Str → Option Value} {base : Heap} {G : Gd}
abbrev rgD (n : Nat) : PyData := .list ((List.range n).map fun (i : Nat) => .int (i : Int))
theorem flat_oi (o : OI) : flatD (oi o) = true := by cases o <;> rfl
theorem flats_oi : ∀ r : K18.Row, (r.map oi).all flatD = true
  | [] => rfl
  | o :: r => by rw [List.map_cons, List.all_cons, flat_oi, flats_oi r]; rfl
def R_closed_rows (es : List Ent) (y : Ent) : Prop := ∃ (n : Nat) (m : Mat), es = [.dat (lmD m)] ∧ Sq n m ∧ n ≤ 100 ∧ y = .dat (lmD (closedRows n m))
abbrev s_closed_rows : Stmt := (topS 32)
abbrev N_closed_rows : List Str := ["rows", "row", "found", "places", "middle", "first", "ahead", "last"]
theorem sc_closed_rows : FnScope N_closed_rows ["rows"] (defScope s_closed_rows) := ⟨rfl, rfl, rfl, by decide +kernel, rfl, by decide +kernel, by decide +kernel⟩
theorem ok_closed_rows {f : Addr} {fd : FuncData} (F : Fun G.K "closed_rows" "closed_rows" s_closed_rows f fd) (B : Bi mg)  (h_added : Has P w G.K mg base "added" 1 ["one", "other"] (spE G 2 R_added)) (h_lesser : Has P w G.K mg base "lesser" 1 ["one", "other"] (spE G 2 R_lesser)) : FnOk P w G.K mg base CX0 2 f fd ["rows"] (spE G 1 R_closed_rows) := by
  refine F.ok sc_closed_rows (fun vs H Q E h => h.1) (fun cdv A outer s H vs Q E hr h => ⟨_, (pss_cons (ps_asg (pe_tup (pa_cons (pe_lc rfl sc_closed_rows.nd (Kv.pi_listK G.K (pv 0)) (blkOk_by (own := [("row", 1)]) (N := N_closed_rows) (sc := (defScope s_closed_rows)) (by decide +kernel)) (fun _ _ _ _ _ => (pg_name (i := 1) sc_closed_rows.nd rfl (Or.inl rfl))) (fun _ _ _ _ _ => pts_nil) (fun _ _ _ _ _ => (pe_callTy (Kv.call_list_ofK G.K) (by rfl) B.list (by decide +kernel) (pa_cons (pv 1) pa_nil)))) (pa_cons (pe_listRg rfl (by rfl) B.list (prg_1 (by rfl) B.range (pe_callB (Kv.call_lenK G.K) (by rfl) B.len (by decide +kernel) (pa_cons (pv 0) pa_nil)))) pa_nil))) (Kv.pg_tupK G.K rfl (pgs_cons (pg_name (i := 2) sc_closed_rows.nd rfl (Or.inr rfl)) (pgs_cons (pg_name (i := 3) sc_closed_rows.nd rfl (Or.inl rfl)) pgs_nil))))
      (pss_cons (ps_for PassesOwn.never rfl (Kv.pi_listK G.K (pv 3)) (pg_name (i := 4) sc_closed_rows.nd rfl (Or.inr rfl)) (pss_one (ps_for PassesOwn.never rfl (Kv.pi_listK G.K (pv 3)) (pg_name (i := 5) sc_closed_rows.nd rfl (Or.inr rfl)) (pss_cons (ps_set (i := 6) sc_closed_rows.nd rfl (Or.inr rfl) (pe_ix (Kv.ix_listK G.K) (pe_ix (Kv.ix_listK G.K) (pv 2) (pv 5) (fun _ _ => rfl)) (pv 4) (fun _ _ => rfl)))
      (pss_one (ps_asg (pe_lc rfl sc_closed_rows.nd (Kv.pi_listK G.K (pv 3)) (blkOk_by (own := [("last", 7)]) (N := N_closed_rows) (sc := (defScope s_closed_rows)) (by decide +kernel)) (fun _ _ _ _ _ => (pg_name (i := 7) sc_closed_rows.nd rfl (Or.inl rfl))) (fun _ _ _ _ _ => pts_nil) (fun _ _ _ _ _ => (pe_fn h_lesser hr (by decide) (pa_cons (pe_ix (Kv.ix_listK G.K) (pe_ix (Kv.ix_listK G.K) (pv 2) (pv 5) (fun _ _ => rfl)) (pv 7) (fun _ _ => rfl)) (pa_cons (pe_fn h_added hr (by decide) (pa_cons (pv 6) (pa_cons (pe_ix (Kv.ix_listK G.K) (pe_ix (Kv.ix_listK G.K) (pv 2) (pv 4) (fun _ _ => rfl)) (pv 7) (fun _ _ => rfl)) pa_nil))) pa_nil))))) (pg_sub (pv 2) (pv 5) set_list)))))))
      (pss_one (ps_ret (pv 2))))), ?_⟩)
  obtain ⟨_, S, es, y, dm, rl, hR, kk⟩ := h
  refine fn_run dm rl kk ?_
  clear kk rl dm
  obtain ⟨n, m, rfl, sq, hn, rfl⟩ := hR
  have hl : (m.map lrowD).length = n := by rw [List.length_map]; exact sq.len
  -- found: the rows so far
  let St : Mat → Rho → Om → Prop := fun f ρ om => Sq n f ∧ (∃ r4 r5 r6, ρ = [some (.dat (lmD m)), none, none, some (.dat (rgD n)), r4, r5, r6, none]) ∧ om = [(2, f.map lrowD)]
  refine em_seq (N1 := St m) (em_tupLD (El.to (el_lc (js := [1]) (l := m) (enc := fun r => .dat (lrowD r)) (fun r => lrowD r) (sr_lstM (ev_var rfl)) (by rw [sq.len]; omega) (by simp) fun r hr => ⟨_, tg_name, El.ed (el_listOf (.inr (ea_cons (ev_var rfl) ea_nil)))⟩) rfl)
    (El.ed (el_rng (n := n) (Ev.to (ev_cb (ea_cons (ev_var rfl) ea_nil) rc_lenL) (by rw [hl])) (by omega))) (by simp [slots]) (by simp [slots]) (by decide) (by show 2 < 8; decide) ⟨sq, ⟨none, none, none, rfl⟩, rfl⟩) ?_
  rintro ρ om ⟨_, ⟨r4, r5, r6, rfl⟩, rfl⟩
  refine em_seq (N1 := St (closedRows n m)) (em_for (js := [4]) (xs := (List.range n).map fun (i : Nat) => eI i) (sr_lstM (ev_var rfl)) (fun k => St (stage n m k)) ⟨sq, ⟨r4, r5, r6, rfl⟩, rfl⟩ ?_ fun ρ om h => by rw [List.length_map, List.length_range] at h; exact h) ?_
  · rintro k e ρ om hk ⟨sqk, ⟨r4, r5, r6, rfl⟩, rfl⟩
    obtain ⟨hk1, rfl⟩ := rg_get hk
    refine ⟨by simp [slots], _, tg_name, ?_⟩
    let Si : Mat → Rho → Om → Prop := fun f ρ om => Sq n f ∧ (∃ r5 r6, ρ = [some (.dat (lmD m)), none, none, some (.dat (rgD n)), some (eI k), r5, r6, none]) ∧ om = [(2, f.map lrowD)]
    refine em_for (js := [5]) (xs := (List.range n).map fun (i : Nat) => eI i) (sr_lstM (ev_var rfl)) (fun i => Si ((List.range i).foldl (stepI n k) (stage n m k))) ⟨sqk, ⟨r5, r6, rfl⟩, rfl⟩ ?_ fun ρ om h => ?_
    · rintro i e ρ om hi ⟨sqi, ⟨r5, r6, rfl⟩, rfl⟩
      obtain ⟨hi1, rfl⟩ := rg_get hi
      refine ⟨by simp [slots], _, tg_name, ?_⟩
      generalize hg : (List.range i).foldl (stepI n k) (stage n m k) = g at sqi
      have hs : (List.range (i + 1)).foldl (stepI n k) (stage n m k) = stepI n k g i := by rw [List.range_succ, List.foldl_append, hg]; rfl
      rw [hs]
      refine em_seq (N1 := fun ρ om => ρ = [some (.dat (lmD m)), none, none, some (.dat (rgD n)), some (eI k), some (eI i), some (eO (ent g i k)), none] ∧ om = [(2, g.map lrowD)])
        (em_asgF (ev_ixL (ev_ixL (ev_var rfl) (ev_var rfl) (at_lmat sqi hi1)) (ev_var rfl) (at_ent sqi hi1 hk1)) (flat_oi _) (by simp [slots]) ⟨rfl, rfl⟩) ?_
      rintro ρ om ⟨rfl, rfl⟩
      refine em_setL (k := 0) (j := i) (ds := g.map lrowD) rfl (el_lc (js := [7]) (l := List.range n) (enc := fun i => eI i) (fun j => oi (lesserO (ent g i j) (addO (ent g i k) (ent g k j)))) (sr_lstM (ev_var rfl)) (by rw [List.length_range]; omega) (by simp) fun j hj => ⟨_, tg_name, ?_⟩) ?_ (ev_var rfl) (by rw [List.length_map, sqi.len]; exact hi1) ?_
      · have hj := List.mem_range.mp hj
        exact ev_call (ea_cons (ev_ixL (ev_ixL (ev_var rfl) (ev_var rfl) (at_lmat sqi hi1)) (ev_var rfl) (at_ent sqi hi1 hj)) (ea_cons (ev_call (ea_cons (ev_var rfl) (ea_cons (ev_ixL (ev_ixL (ev_var rfl) (ev_var rfl) (at_lmat sqi hk1)) (ev_var rfl) (at_ent sqi hk1 hj)) ea_nil)) ⟨_, _, rfl, rfl⟩) ea_nil)) ⟨_, _, rfl, rfl⟩
      · rw [List.all_map]
        exact List.all_eq_true.mpr fun j _ => flat_oi _
      · refine ⟨sq_stepI i sqi, ⟨_, _, rfl⟩, ?_⟩
        show [(2, (g.map lrowD).set i _)] = _
        unfold K18.stepI
        rw [List.map_set]
        congr 4
        show _ = (stepRow n k i g).map oi
        unfold stepRow
        rw [List.map_map]
        rfl
    · rw [List.length_map, List.length_range] at h
      obtain ⟨h1, ⟨r5, r6, rfl⟩, h3⟩ := h
      rw [stage_succ]
      exact ⟨h1, ⟨_, _, _, rfl⟩, h3⟩
  · rintro ρ om ⟨_, ⟨r4, r5, r6, rfl⟩, rfl⟩
    exact em_var rfl rfl
theorem diag_some {n : Nat} {m : Mat} {i : Nat} (hi : i < n) : ∃ x, ent (closedRows n (counted n m)) i i = some x := by
  have h1 : Le (ent (closedRows n (counted n m)) i i) (countedAt m i i) := closed_le hi hi
  have h2 := h1.trans (counted_diag m i)
  cases h : ent (closedRows n (counted n m)) i i with
  | none => rw [h] at h2; exact h2.elim
  | some x => exact ⟨x, rfl⟩
def R_closed_form (es : List Ent) (y : Ent) : Prop := ∃ (n : Nat) (m : Mat), es = [.dat (matD m)] ∧ Sq n m ∧ n ≤ 100 ∧ y = .dat (clD (closedForm m))
abbrev s_closed_form : Stmt := (topS 33)
abbrev N_closed_form : List Str := ["bounds", "found", "place", "row"]
theorem sc_closed_form : FnScope N_closed_form ["bounds"] (defScope s_closed_form) := ⟨rfl, rfl, rfl, by decide +kernel, rfl, by decide +kernel, by decide +kernel⟩
theorem ok_closed_form {f : Addr} {fd : FuncData} (F : Fun G.K "closed_form" "closed_form" s_closed_form f fd) (B : Bi mg)  (h_counted : Has P w G.K mg base "counted" 3 ["bounds"] (spE G 1 R_counted)) (h_closed_rows : Has P w G.K mg base "closed_rows" 2 ["rows"] (spE G 1 R_closed_rows)) : FnOk P w G.K mg base CX0 4 f fd ["bounds"] (spE G 1 R_closed_form) := by
  refine F.ok sc_closed_form (fun vs H Q E h => h.1) (fun cdv A outer s H vs Q E hr h => ⟨_, (pss_cons (ps_set (i := 1) sc_closed_form.nd rfl (Or.inr rfl) (pe_fn h_closed_rows hr (by decide) (pa_cons (pe_fn h_counted hr (by decide) (pa_cons (pv 0) pa_nil)) pa_nil)))
      (pss_cons (ps_if (pt_val (pe_callB (Kv.cr_anyK G.K) (by rfl) B.any (by decide +kernel) (pa_cons (pe_lc rfl sc_closed_form.nd (pi_range1 (by rfl) B.range (pa_cons (pe_callB (Kv.call_lenK G.K) (by rfl) B.len (by decide +kernel) (pa_cons (pv 1) pa_nil)) pa_nil)) (blkOk_by (own := [("place", 2)]) (N := N_closed_form) (sc := (defScope s_closed_form)) (by decide +kernel)) (fun _ _ _ _ _ => (pg_name (i := 2) sc_closed_form.nd rfl (Or.inl rfl))) (fun _ _ _ _ _ => pts_nil) (fun _ _ _ _ _ => (pe_cmpR op_lt (pe_ix (Kv.ix_listK G.K) (pe_ix (Kv.ix_listK G.K) (pv 1) (pv 2) (fun _ _ => rfl)) (pv 2) (fun _ _ => rfl)) pe_int (nomark _)))) pa_nil))) (pss_one (ps_ret pe_non)) pss_nil)
      (pss_one (ps_ret (Kv.pe_tupleOfK G.K (by rfl) B.tuple (pe_lc rfl sc_closed_form.nd (Kv.pi_listK G.K (pv 1)) (blkOk_by (own := [("row", 3)]) (N := N_closed_form) (sc := (defScope s_closed_form)) (by decide +kernel)) (fun _ _ _ _ _ => (pg_name (i := 3) sc_closed_form.nd rfl (Or.inl rfl))) (fun _ _ _ _ _ => pts_nil) (fun _ _ _ _ _ => (Kv.pe_tupleOfK G.K (by rfl) B.tuple (pv 3))))))))), ?_⟩)
  obtain ⟨_, S, es, y, dm, rl, hR, kk⟩ := h
  refine fn_run dm rl kk ?_
  clear kk rl dm
  obtain ⟨n, m, rfl, sq, hn, rfl⟩ := hR
  generalize hc : closedRows n (counted n m) = c
  have sqc : Sq n c := by rw [← hc]; exact sq_closedRows (sq_counted n m)
  have hl : (c.map lrowD).length = n := by rw [List.length_map]; exact sqc.len
  have hcf : closedForm m = if (List.range n).any (fun i => negO (ent c i i)) then none else some c := by
    unfold closedForm
    rw [sq.len, hc]
  refine em_seq (N1 := fun ρ om => ρ = [some (.dat (matD m)), some (.dat (lmD c)), none, none] ∧ om = []) (em_asg (ev_call (ea_cons (ev_call (ea_cons (ev_var rfl) ea_nil) ⟨n, m, rfl, sq, hn, rfl⟩) ea_nil) ⟨n, _, rfl, sq_counted n m, hn, by rw [hc]⟩) (by simp [slots]) ⟨rfl, rfl⟩) ?_
  rintro ρ om ⟨rfl, rfl⟩
  refine em_seq (N1 := fun ρ om => (List.range n).any (fun i => negO (ent c i i)) = false ∧ ρ = [some (.dat (matD m)), some (.dat (lmD c)), none, none] ∧ om = []) (em_if (et_test (ev_cb (ea_cons (El.ed (el_lcB (js := [2]) (l := List.range n) (enc := fun (i : Nat) => eI i) (fun i => negO (ent c i i)) (sr_rng (n := n) (ea_cons (Ev.to (ev_cb (ea_cons (ev_var rfl) ea_nil) rc_lenL) (by rw [hl])) ea_nil) (by omega)) (by rw [List.length_range]; omega) (by simp) fun i hi => ?_)) ea_nil) rc_any)) (fun z => ?_) fun z => ?_) ?_
  · have hi := List.mem_range.mp hi
    obtain ⟨x, hx⟩ := diag_some (m := m) hi
    rw [hc] at hx
    refine ⟨_, tg_name, Ev.to (ev_B0 (Ev.to (ev_ixL (ev_ixL (ev_var rfl) (ev_var rfl) (at_lmat sqc hi)) (ev_var rfl) (at_ent sqc hi hi)) (by rw [hx]; rfl)) ev_int) ?_⟩
    rw [hx]
    rfl
  · rw [List.any_map] at z
    have z' : (List.range n).any (fun i => negO (ent c i i)) = true := z
    refine em_ret ev_non ?_
    rw [hcf, if_pos z']
    rfl
  · rw [List.any_map] at z
    exact em_next ⟨z, rfl, rfl⟩
  rintro ρ om ⟨z, rfl, rfl⟩
  refine em_ret (ev_tupleOf (.inl (El.ed (el_lc (js := [3]) (l := c) (enc := fun r => .dat (lrowD r)) (fun r => rowD r) (sr_lstM (ev_var rfl)) (by rw [sqc.len]; omega) (by simp) fun r hr => ⟨_, tg_name, ev_tupleOf (.inl (ev_var rfl))⟩)))) ?_
  rw [hcf, if_neg (by rw [z]; exact Bool.false_ne_true)]
  rfl
/-- readings of a point in 1/u -/
def rdOf (n u : Nat) (P : Nat → Int) : List (Int × Int) := (List.range (n - 1)).map fun k => lowF (P (k + 1)) u
theorem row_tail {α : Type} {r : List α} (d : α) {n : Nat} (h : r.length = n) : r.drop 1 = (List.range (n - 1)).map fun k => r.getD (k + 1) d := by
  refine List.ext_getElem? fun i => ?_
  rw [List.getElem?_drop, List.getElem?_map]
  by_cases hi : i < n - 1
  · rw [List.getElem?_range hi, List.getElem?_eq_getElem (by omega)]
    show _ = some (r.getD (i + 1) d)
    rw [List.getD_eq_getElem?_getD, List.getElem?_eq_getElem (by omega)]
    simp [Nat.add_comm]
  · rw [List.getElem?_eq_none (by omega), List.getElem?_eq_none (by rw [List.length_range]; omega)]
    rfl
def R_least_of (es : List Ent) (y : Ent) : Prop := ∃ (n u : Nat) (c : Mat), es = [.dat (matD c), eI u] ∧ Sq n c ∧ (0 < n ∧ n ≤ 100) ∧ (0 < u ∧ u ≤ 64) ∧ (∀ k, k < n → ∃ x, ent c 0 k = some x) ∧ y = .dat (rdD (rdOf n u (leastP c)))
abbrev s_least_of : Stmt := (topS 35)
abbrev N_least_of : List Str := ["closed", "unit", "one"]
theorem sc_least_of : FnScope N_least_of ["closed", "unit"] (defScope s_least_of) := ⟨rfl, rfl, rfl, by decide +kernel, rfl, by decide +kernel, by decide +kernel⟩
theorem ok_least_of {f : Addr} {fd : FuncData} (F : Fun G.K "least_of" "least_of" s_least_of f fd) (B : Bi mg)  (h_lowest : Has P w G.K mg base "lowest" 2 ["top", "bottom"] (spE G 2 R_lowest)) : FnOk P w G.K mg base CX0 3 f fd ["closed", "unit"] (spE G 2 R_least_of) := by
  refine F.ok sc_least_of (fun vs H Q E h => h.1) (fun cdv A outer s H vs Q E hr h => ⟨_, (pss_one (ps_ret (Kv.pe_tupleOfK G.K (by rfl) B.tuple (pe_lc rfl sc_least_of.nd (Kv.pi_tupK G.K (pe_slice (Kv.sl_tupAK G.K) (pe_ix (Kv.ix_tupK G.K) (pv 0) pe_int (fun _ _ => rfl)) (po_some pe_int) po_none)) (blkOk_by (own := [("one", 2)]) (N := N_least_of) (sc := (defScope s_least_of)) (by decide +kernel)) (fun _ _ _ _ _ => (pg_name (i := 2) sc_least_of.nd rfl (Or.inl rfl))) (fun _ _ _ _ _ => pts_nil) (fun _ _ _ _ _ => (pe_fn h_lowest hr (by decide) (pa_cons (pe_un un_neg (pv 2)) (pa_cons (pv 1) pa_nil)))))))), ?_⟩)
  obtain ⟨_, S, es, y, dm, rl, hR, kk⟩ := h
  refine fn_run dm rl kk ?_
  clear kk rl dm
  obtain ⟨n, u, c, rfl, sq, hn, hu, hx, rfl⟩ := hR
  have hr0 := Sq.rowlen sq hn.1
  have hlen : ((c.getD 0 []).map oi).length = n := by rw [List.length_map]; exact hr0
  have cut : (((c.getD 0 []).map oi).drop (HT.sIx ((c.getD 0 []).map oi).length 0 (some 1))).take (HT.sIx ((c.getD 0 []).map oi).length ((c.getD 0 []).map oi).length none - HT.sIx ((c.getD 0 []).map oi).length 0 (some 1)) = (List.range (n - 1)).map fun k => oi (ent c 0 (k + 1)) := by
    rw [hlen]
    have e1 : HT.sIx n 0 (some 1) = 1 := by unfold HT.sIx; simp; omega
    have e2 : HT.sIx n n none = n := rfl
    rw [e1, e2, List.take_of_length_le (by rw [List.length_drop, hlen]; omega), ← List.map_drop, row_tail none hr0, List.map_map]
    rfl
  refine em_ret (ev_tupleOf (.inl (El.ed (el_lc (js := [2]) (l := List.range (n - 1)) (enc := fun (k : Nat) => eO (ent c 0 (k + 1))) (fun k => frD (lowF (leastP c (k + 1)) u)) (sr_tupM (ev_slT (ev_ixT (ev_var rfl) ev_int (at_mat sq hn.1)) (fun σ H Q q => ⟨_, rfl, q⟩) (fun σ H Q q => q) cut)) (by rw [List.length_range]; omega) (by simp) fun k hk => ?_)))) ?_
  · have hk := List.mem_range.mp hk
    obtain ⟨x, hx⟩ := hx (k + 1) (by omega)
    refine ⟨_, tg_name, ev_call (ea_cons (ev_neg (Ev.to (ev_var rfl) (by show eO _ = eI x; rw [hx]; rfl))) (ea_cons (ev_var rfl) ea_nil)) ⟨_, u, rfl, hu.1, hu.2, ?_⟩⟩
    unfold leastP
    rw [hx]
    rfl
  · unfold rdOf rdD
    rw [List.map_map]
    rfl
end
end Ek
end

section
set_option Elab.async false
set_option linter.all false
set_option maxRecDepth 100000
set_option maxHeartbeats 4000000
namespace Ek
open PySem PySem.Spec PyProof.Rows L2 K18
open Evl (Ex ex_rd ex_l ex_t fresh_back sz_of sz_lt)
section
variable {P : Program} {w : World} {mg : Str → Option Value} {base : Heap} {G : Gd}
def R_with_bound (es : List Ent) (y : Ent) : Prop := ∃ (n : Nat) (c : Mat) (i j : Nat) (k : Int), es = [.dat (matD c), eI i, eI j, eI k] ∧ Sq n c ∧ n ≤ 100 ∧ i < n ∧ j < n ∧ y = .dat (matD (withBound c i j k))
abbrev s_with_bound : Stmt := (topS 34)
abbrev N_with_bound : List Str := ["bounds", "first", "last", "number", "row", "found"]
theorem sc_with_bound : FnScope N_with_bound ["bounds", "first", "last", "number"] (defScope s_with_bound) := ⟨rfl, rfl, rfl, by decide +kernel, rfl, by decide +kernel, by decide +kernel⟩
theorem ok_with_bound {f : Addr} {fd : FuncData} (F : Fun G.K "with_bound" "with_bound" s_with_bound f fd) (B : Bi mg)  (h_lesser : Has P w G.K mg base "lesser" 1 ["one", "other"] (spE G 2 R_lesser)) : FnOk P w G.K mg base CX0 2 f fd ["bounds", "first", "last", "number"] (spE G 4 R_with_bound) := by
  refine F.ok sc_with_bound (fun vs H Q E h => h.1) (fun cdv A outer s H vs Q E hr h => ⟨_, (pss_cons (ps_setLc (i := 5) rfl sc_with_bound.nd rfl rfl (sw_true rfl rfl rfl (by decide +kernel)) (Kv.pi_tupK G.K (pv 0)) (blkOk_by (own := [("row", 4)]) (N := N_with_bound) (sc := (defScope s_with_bound)) (by decide +kernel)) (fun _ _ _ _ _ => (pg_name (i := 4) sc_with_bound.nd rfl (Or.inl rfl))) (fun _ _ _ _ _ => pts_nil) (fun _ _ _ _ _ => (pe_callTy (Kv.call_list_ofK G.K) (by rfl) B.list (by decide +kernel) (pa_cons (pv 4) pa_nil))))
      (pss_cons (ps_asg (pe_fn h_lesser hr (by decide) (pa_cons (pe_ix (Kv.ix_listK G.K) (pe_ix (Kv.ix_listK G.K) (pv 5) (pv 1) (fun _ _ => rfl)) (pv 2) (fun _ _ => rfl)) (pa_cons (pv 3) pa_nil))) (pg_sub (pe_ix (Kv.ix_listK G.K) (pv 5) (pv 1) (fun _ _ => rfl)) (pv 2) set_list))
      (pss_one (ps_ret (Kv.pe_tupleOfK G.K (by rfl) B.tuple (pe_lc rfl sc_with_bound.nd (Kv.pi_listK G.K (pv 5)) (blkOk_by (own := [("row", 4)]) (N := N_with_bound) (sc := (defScope s_with_bound)) (by decide +kernel)) (fun _ _ _ _ _ => (pg_name (i := 4) sc_with_bound.nd rfl (Or.inl rfl))) (fun _ _ _ _ _ => pts_nil) (fun _ _ _ _ _ => (Kv.pe_tupleOfK G.K (by rfl) B.tuple (pv 4))))))))), ?_⟩)
  obtain ⟨_, S, es, y, dm, rl, hR, kk⟩ := h
  refine fn_run dm rl kk ?_
  clear kk rl dm
  obtain ⟨n, c, i, j, k, rfl, sq, hn, hi, hj, rfl⟩ := hR
  have sqw := sq_withBound sq i j k
  refine em_rows (r := 4) (f := 5) (i := i) (j := j) (v := lesserO (ent c i j) (some k)) rfl sq hn hi hj (ev_var rfl) (by simp [slots]) (by show 5 < 6; decide) (by show 4 < 6; decide) (by decide) (by simp [slots]) (ev_call (ea_cons (ev_ixL (ev_ixL (ev_var rfl) (ev_var rfl) (at_lmat sq hi)) (ev_var rfl) (at_ent sq hi hj)) (ea_cons (ev_var rfl) ea_nil)) ⟨_, some k, rfl, rfl⟩) (ev_var rfl) (ev_var rfl) ?_
  exact em_ret (ev_tupleOf (.inl (El.ed (el_lc (js := [4]) (l := withBound c i j k) (enc := fun r => .dat (lrowD r)) (fun r => rowD r) (sr_lstM (ev_var rfl)) (by rw [sqw.len]; omega) (by simp) fun r hr => ⟨_, tg_name, ev_tupleOf (.inl (ev_var rfl))⟩)))) rfl
/-- a place's reading: nought's is 0 -/
def rdAt (l : List (Int × Int)) (k : Nat) : Int × Int := if k = 0 then (0, 1) else l.getD (k - 1) (0, 1)
def keptB (l : List (Int × Int)) (a b : Nat) (x : OI) (u : Int) : Bool := match x with
  | none => true
  | some x => decide (((rdAt l a).1 * (rdAt l b).2 - (rdAt l b).1 * (rdAt l a).2) * u ≤ x * (rdAt l a).2 * (rdAt l b).2)
def Und (l : List (Int × Int)) : Prop := ∀ p ∈ l, 0 < p.2 ∧ p.2 ≤ 64
theorem Und.at_ {l : List (Int × Int)} (h : Und l) (k : Nat) : 0 < (rdAt l k).2 ∧ (rdAt l k).2 ≤ 64 := by
  unfold rdAt
  split
  · exact ⟨by decide, by decide⟩
  · rw [List.getD_eq_getElem?_getD]
    cases q : l[k - 1]? with
    | none => exact ⟨by decide, by decide⟩
    | some p => exact h p (List.mem_of_getElem? q)
theorem mul_ok {i j : Int} (h : 0 < j ∧ j ≤ 64) : CMul i j := .inr ⟨by omega, by omega⟩
def R_is_kept (es : List Ent) (y : Ent) : Prop := ∃ (l : List (Int × Int)) (a b : Nat) (x : OI) (u : Int), es = [.dat (rdD l), eI a, eI b, eO x, eI u] ∧ Und l ∧ a ≤ l.length ∧ b ≤ l.length ∧ (0 < u ∧ u ≤ 64) ∧ y = eB (keptB l a b x u)
abbrev s_is_kept : Stmt := (topS 36)
abbrev N_is_kept : List Str := ["readings", "first", "last", "number", "unit", "place", "top", "bottom", "less", "under"]
theorem sc_is_kept : FnScope N_is_kept ["readings", "first", "last", "number", "unit"] (defScope s_is_kept) := ⟨rfl, rfl, rfl, by decide +kernel, rfl, by decide +kernel, by decide +kernel⟩
theorem ok_is_kept {f : Addr} {fd : FuncData} (F : Fun G.K "is_kept" "is_kept" s_is_kept f fd) (B : Bi mg)   : FnOk P w G.K mg base CX0 1 f fd ["readings", "first", "last", "number", "unit"] (spE G 5 R_is_kept) := by
  refine F.ok sc_is_kept (fun vs H Q E h => h.1) (fun cdv A outer s H vs Q E hr h => ⟨_, (pss_cons (ps_asg (pe_lc rfl sc_is_kept.nd (Kv.pi_tupK G.K (pe_tup (pa_cons (pv 1) (pa_cons (pv 2) pa_nil)))) (blkOk_by (own := [("place", 5)]) (N := N_is_kept) (sc := (defScope s_is_kept)) (by decide +kernel)) (fun _ _ _ _ _ => (pg_name (i := 5) sc_is_kept.nd rfl (Or.inl rfl))) (fun _ _ _ _ _ => pts_nil) (fun _ _ _ _ _ => (pe_ifExp (pt_cmpR op_eq (pv 5) pe_int (nomark _)) (pe_tup (pa_cons pe_int (pa_cons pe_int pa_nil))) (pe_ix (Kv.ix_tupK G.K) (pv 0) (pe_op op_sub (pv 5) pe_int) (fun _ _ => rfl))))) (Kv.pg_unlK G.K rfl (pgs_cons (Kv.pg_tupK G.K rfl (pgs_cons (pg_name (i := 6) sc_is_kept.nd rfl (Or.inl rfl)) (pgs_cons (pg_name (i := 7) sc_is_kept.nd rfl (Or.inl rfl)) pgs_nil))) (pgs_cons (Kv.pg_tupK G.K rfl (pgs_cons (pg_name (i := 8) sc_is_kept.nd rfl (Or.inl rfl)) (pgs_cons (pg_name (i := 9) sc_is_kept.nd rfl (Or.inl rfl)) pgs_nil))) pgs_nil))))
      (pss_one (ps_ret (pe_or (pe_cmpR op_isN (pv 3) pe_non (nomark _)) (pe_one (pe_cmpR op_le (pe_op op_mul (pe_op op_sub (pe_op op_mul (pv 6) (pv 9)) (pe_op op_mul (pv 8) (pv 7))) (pv 4)) (pe_op op_mul (pe_op op_mul (pv 3) (pv 7)) (pv 9)) (nomark _))))))), ?_⟩)
  obtain ⟨_, S, es, y, dm, rl, hR, kk⟩ := h
  refine fn_run dm rl kk ?_
  clear kk rl dm
  obtain ⟨l, a, b, x, u, rfl, hl, ha, hb, hu, rfl⟩ := hR
  have ua := hl.at_ a
  have ub := hl.at_ b
  refine em_seq (N1 := fun ρ om => ρ = [some (.dat (rdD l)), some (eI a), some (eI b), some (eO x), some (eI u), none, some (eI (rdAt l a).1), some (eI (rdAt l a).2), some (eI (rdAt l b).1), some (eI (rdAt l b).2)] ∧ om = [])
    (em_asgT (x := .dat (.list [frD (rdAt l a), frD (rdAt l b)])) (js := [6, 7] ++ ([8, 9] ++ [])) (El.ed (el_lc (js := [5]) (l := [a, b]) (enc := fun (i : Nat) => eI i) (fun i => frD (rdAt l i)) (sr_tupM (f := fun (i : Nat) => .int (i : Int)) (ev_tup (ds := [.int a, .int b]) (ea_cons (ev_var rfl) (ea_cons (ev_var rfl) ea_nil)) (Nat.le_of_ble_eq_true rfl))) (Nat.le_of_ble_eq_true rfl) (by simp) fun i hi => ?_)) (tg_lst (tgs_cons tg_2 (tgs_cons tg_2 tgs_nil))) (by simp [slots]) ⟨rfl, rfl⟩) ?_
  · have hil : i ≤ l.length := by
      rcases List.mem_cons.mp hi with rfl | hi
      · exact ha
      · have : i = b := by simpa using hi
        omega
    refine ⟨_, tg_name, ev_if (et_test (ev_eqI (ev_var rfl) ev_int)) (fun z => Ev.to (ev_tup (ds := [.int 0, .int 1]) (ea_cons ev_int (ea_cons ev_int ea_nil)) (Nat.le_of_ble_eq_true rfl)) ?_) fun z => ?_⟩
    · have z := of_decide_eq_true z
      unfold rdAt
      rw [if_pos (by omega)]
      rfl
    · have z := of_decide_eq_false z
      have e : ((i : Int) - 1) = ((i - 1 : Nat) : Int) := by omega
      refine ev_ixT (ds := l.map frD) (ev_var rfl) (Ev.to (ev_I0 (ev_var rfl) ev_int) (congrArg eI e)) ?_
      rw [at_map (0, 1) (by omega)]
      unfold rdAt
      rw [if_neg (by omega)]
  rintro ρ om ⟨rfl, rfl⟩
  cases x with
  | none => exact em_ret (ev_orT (ev_isNb (ev_var rfl))) rfl
  | some x => exact em_ret (ev_orF (ev_isNb (ev_var rfl)) (ev_B0 (ev_I (ev_I0 (ev_I (ev_var rfl) (ev_var rfl) (mul_ok ub)) (ev_I (ev_var rfl) (ev_var rfl) (mul_ok ua))) (ev_var rfl) (mul_ok hu)) (ev_I (ev_I (ev_var rfl) (ev_var rfl) (mul_ok ua)) (ev_var rfl) (mul_ok ub)))) rfl
def ShortO (o : OI) : Prop := ∀ x, o = some x → -10 ^ 60 < x ∧ x < 10 ^ 60
def R_is_bounds_row (es : List Ent) (y : Ent) : Prop := ∃ (n : Nat) (r : K18.Row), es = [.dat (rowD r), eI n] ∧ r.length = n + 1 ∧ n ≤ 100 ∧ (∀ o ∈ r, ShortO o) ∧ y = eB true
abbrev s_is_bounds_row : Stmt := (topS 26)
abbrev N_is_bounds_row : List Str := ["value", "clocks", "one"]
theorem sc_is_bounds_row : FnScope N_is_bounds_row ["value", "clocks"] (defScope s_is_bounds_row) := ⟨rfl, rfl, rfl, by decide +kernel, rfl, by decide +kernel, by decide +kernel⟩
theorem ok_is_bounds_row {f : Addr} {fd : FuncData} (F : Fun G.K "is_bounds_row" "is_bounds_row" s_is_bounds_row f fd) (B : Bi mg)  (h_is_short : Has P w G.K mg base "is_short" 2 ["value"] (spE G 1 R_is_short)) : FnOk P w G.K mg base CX0 3 f fd ["value", "clocks"] (spE G 2 R_is_bounds_row) := by
  refine F.ok sc_is_bounds_row (fun vs H Q E h => h.1) (fun cdv A outer s H vs Q E hr h => ⟨_, (pss_cons (ps_if (PW.pt (pw_or (pt_not (pt_val (pe_callB (Kv.call_isiK G.K) (by rfl) B.isinstance (by decide +kernel) (pa_cons (pv 0) (pa_cons (pe_bltn (v := .ty "tuple") (u := .type "tuple") (by rfl) B.tuple (by decide +kernel) rfl) pa_nil))))) (pw_or1 (pt_cmpR op_ne (pe_callB (Kv.call_lenK G.K) (by rfl) B.len (by decide +kernel) (pa_cons (pv 0) pa_nil)) (pe_op op_add (pv 1) pe_int) (nomark _))))) (pss_one (ps_ret pe_bl)) pss_nil)
      (pss_one (ps_ret (pe_callB (Kv.cr_allK G.K) (by rfl) B.all (by decide +kernel) (pa_cons (pe_lc rfl sc_is_bounds_row.nd (Kv.pi_tupK G.K (pv 0)) (blkOk_by (own := [("one", 2)]) (N := N_is_bounds_row) (sc := (defScope s_is_bounds_row)) (by decide +kernel)) (fun _ _ _ _ _ => (pg_name (i := 2) sc_is_bounds_row.nd rfl (Or.inl rfl))) (fun _ _ _ _ _ => pts_nil) (fun _ _ _ _ _ => (pe_or (pe_cmpR op_isN (pv 2) pe_non (nomark _)) (pe_one (pe_fn h_is_short hr (by decide) (pa_cons (pv 2) pa_nil)))))) pa_nil))))), ?_⟩)
  obtain ⟨_, S, es, y, dm, rl, hR, kk⟩ := h
  refine fn_run dm rl kk ?_
  clear kk rl dm
  obtain ⟨n, r, rfl, hr, hn, hs, rfl⟩ := hR
  refine em_seq (N1 := fun ρ om => ρ = [some (.dat (rowD r)), some (eI n), none] ∧ om = []) (em_gate (et_orF (et_not (et_test (ev_isiT (ev_var rfl)))) (Et.to (et_test (ev_neI (ev_cb (ea_cons (ev_var rfl) ea_nil) rc_lenT) (ev_I0 (ev_var rfl) ev_int))) ?_)) ⟨rfl, rfl⟩) ?_
  · rw [List.length_map, hr]
    simp
  rintro ρ om ⟨rfl, rfl⟩
  refine em_ret (ev_cb (ea_cons (El.ed (el_lcB (js := [2]) (l := r) (enc := fun o => eO o) (fun _ => true) (sr_tupM (ev_var rfl)) (by omega) (by simp) fun o ho => ⟨_, tg_name, ?_⟩)) ea_nil) rc_all) (by simp)
  cases o with
  | none => exact ev_orT (ev_isNb (ev_var rfl))
  | some x => exact ev_orF (ev_isNb (ev_var rfl)) (ev_call (ea_cons (ev_var rfl) ea_nil) ⟨x, rfl, (hs _ ho x rfl).1, (hs _ ho x rfl).2, rfl⟩)
def Short (m : Mat) : Prop := ∀ r ∈ m, ∀ o ∈ r, ShortO o
def R_is_bounds (es : List Ent) (y : Ent) : Prop := ∃ (n : Nat) (m : Mat), es = [.dat (matD m), eI n] ∧ Sq (n + 1) m ∧ n ≤ 100 ∧ Short m ∧ y = eB true
abbrev s_is_bounds : Stmt := (topS 25)
abbrev N_is_bounds : List Str := ["value", "clocks", "row"]
theorem sc_is_bounds : FnScope N_is_bounds ["value", "clocks"] (defScope s_is_bounds) := ⟨rfl, rfl, rfl, by decide +kernel, rfl, by decide +kernel, by decide +kernel⟩
theorem ok_is_bounds {f : Addr} {fd : FuncData} (F : Fun G.K "is_bounds" "is_bounds" s_is_bounds f fd) (B : Bi mg)  (h_is_bounds_row : Has P w G.K mg base "is_bounds_row" 3 ["value", "clocks"] (spE G 2 R_is_bounds_row)) : FnOk P w G.K mg base CX0 4 f fd ["value", "clocks"] (spE G 2 R_is_bounds) := by
  refine F.ok sc_is_bounds (fun vs H Q E h => h.1) (fun cdv A outer s H vs Q E hr h => ⟨_, (pss_cons (ps_if (PW.pt (pw_or (pt_not (pt_val (pe_callB (Kv.call_isiK G.K) (by rfl) B.isinstance (by decide +kernel) (pa_cons (pv 0) (pa_cons (pe_bltn (v := .ty "tuple") (u := .type "tuple") (by rfl) B.tuple (by decide +kernel) rfl) pa_nil))))) (pw_or1 (pt_cmpR op_ne (pe_callB (Kv.call_lenK G.K) (by rfl) B.len (by decide +kernel) (pa_cons (pv 0) pa_nil)) (pe_op op_add (pv 1) pe_int) (nomark _))))) (pss_one (ps_ret pe_bl)) pss_nil)
      (pss_one (ps_ret (pe_callB (Kv.cr_allK G.K) (by rfl) B.all (by decide +kernel) (pa_cons (pe_lc rfl sc_is_bounds.nd (Kv.pi_tupK G.K (pv 0)) (blkOk_by (own := [("row", 2)]) (N := N_is_bounds) (sc := (defScope s_is_bounds)) (by decide +kernel)) (fun _ _ _ _ _ => (pg_name (i := 2) sc_is_bounds.nd rfl (Or.inl rfl))) (fun _ _ _ _ _ => pts_nil) (fun _ _ _ _ _ => (pe_fn h_is_bounds_row hr (by decide) (pa_cons (pv 2) (pa_cons (pv 1) pa_nil))))) pa_nil))))), ?_⟩)
  obtain ⟨_, S, es, y, dm, rl, hR, kk⟩ := h
  refine fn_run dm rl kk ?_
  clear kk rl dm
  obtain ⟨n, m, rfl, sq, hn, hs, rfl⟩ := hR
  refine em_seq (N1 := fun ρ om => ρ = [some (.dat (matD m)), some (eI n), none] ∧ om = []) (em_gate (et_orF (et_not (et_test (ev_isiT (ev_var rfl)))) (Et.to (et_test (ev_neI (ev_cb (ea_cons (ev_var rfl) ea_nil) rc_lenT) (ev_I0 (ev_var rfl) ev_int))) ?_)) ⟨rfl, rfl⟩) ?_
  · rw [List.length_map, sq.len]
    simp
  rintro ρ om ⟨rfl, rfl⟩
  exact em_ret (ev_cb (ea_cons (El.ed (el_lcB (js := [2]) (l := m) (enc := fun r => .dat (rowD r)) (fun _ => true) (sr_tupM (ev_var rfl)) (by rw [sq.len]; omega) (by simp) fun r hr => ⟨_, tg_name, ev_call (ea_cons (ev_var rfl) (ea_cons (ev_var rfl) ea_nil)) ⟨n, r, rfl, sq.row r hr, hn, hs r hr, rfl⟩⟩)) ea_nil) rc_all) (by simp)
def RdOk (p : Int × Int) : Prop := (0 ≤ p.1 ∧ p.1 < 10 ^ 60) ∧ (0 < p.2 ∧ p.2 ≤ 64) ∧ Nat.gcd p.1.natAbs p.2.natAbs = 1
def R_are_readings (es : List Ent) (y : Ent) : Prop := ∃ (l : List (Int × Int)), es = [.dat (rdD l), eI l.length] ∧ l.length ≤ 100 ∧ (∀ p ∈ l, RdOk p) ∧ y = eB true
abbrev s_are_readings : Stmt := (topS 23)
abbrev N_are_readings : List Str := ["value", "clocks", "one"]
theorem sc_are_readings : FnScope N_are_readings ["value", "clocks"] (defScope s_are_readings) := ⟨rfl, rfl, rfl, by decide +kernel, rfl, by decide +kernel, by decide +kernel⟩
theorem ok_are_readings {f : Addr} {fd : FuncData} (F : Fun G.K "are_readings" "are_readings" s_are_readings f fd) (B : Bi mg)  (h_is_fraction : Has P w G.K mg base "is_fraction" 3 ["value"] (spE G 1 R_is_fraction)) : FnOk P w G.K mg base CX0 4 f fd ["value", "clocks"] (spE G 2 R_are_readings) := by
  refine F.ok sc_are_readings (fun vs H Q E h => h.1) (fun cdv A outer s H vs Q E hr h => ⟨_, (pss_cons (ps_if (PW.pt (pw_or (pt_not (pt_val (pe_callB (Kv.call_isiK G.K) (by rfl) B.isinstance (by decide +kernel) (pa_cons (pv 0) (pa_cons (pe_bltn (v := .ty "tuple") (u := .type "tuple") (by rfl) B.tuple (by decide +kernel) rfl) pa_nil))))) (pw_or1 (pt_cmpR op_ne (pe_callB (Kv.call_lenK G.K) (by rfl) B.len (by decide +kernel) (pa_cons (pv 0) pa_nil)) (pv 1) (nomark _))))) (pss_one (ps_ret pe_bl)) pss_nil)
      (pss_one (ps_ret (pe_callB (Kv.cr_allK G.K) (by rfl) B.all (by decide +kernel) (pa_cons (pe_lc rfl sc_are_readings.nd (Kv.pi_tupK G.K (pv 0)) (blkOk_by (own := [("one", 2)]) (N := N_are_readings) (sc := (defScope s_are_readings)) (by decide +kernel)) (fun _ _ _ _ _ => (pg_name (i := 2) sc_are_readings.nd rfl (Or.inl rfl))) (fun _ _ _ _ _ => pts_nil) (fun _ _ _ _ _ => (pe_and (pe_fn h_is_fraction hr (by decide) (pa_cons (pv 2) pa_nil)) (pe_one (pe_cmpR op_ge (pe_ix (Kv.ix_tupK G.K) (pv 2) pe_int (fun _ _ => rfl)) pe_int (nomark _)))))) pa_nil))))), ?_⟩)
  obtain ⟨_, S, es, y, dm, rl, hR, kk⟩ := h
  refine fn_run dm rl kk ?_
  clear kk rl dm
  obtain ⟨l, rfl, hl, hs, rfl⟩ := hR
  refine em_seq (N1 := fun ρ om => ρ = [some (.dat (rdD l)), some (eI l.length), none] ∧ om = []) (em_gate (et_orF (et_not (et_test (ev_isiT (ev_var rfl)))) (Et.to (et_test (ev_neI (ev_cb (ea_cons (ev_var rfl) ea_nil) rc_lenT) (ev_var rfl))) ?_)) ⟨rfl, rfl⟩) ?_
  · rw [List.length_map]
    simp
  rintro ρ om ⟨rfl, rfl⟩
  refine em_ret (ev_cb (ea_cons (El.ed (el_lcB (js := [2]) (l := l) (enc := fun p => .dat (frD p)) (fun _ => true) (sr_tupM (ev_var rfl)) (by omega) (by simp) fun p hp => ⟨_, tg_name, ?_⟩)) ea_nil) rc_all) (by simp)
  obtain ⟨h1, h2, h3⟩ := hs p hp
  exact ev_andT (ev_call (ea_cons (ev_var rfl) ea_nil) ⟨p.1, p.2, rfl, by omega, by omega, h3, rfl⟩) (Ev.to (ev_B0 (ev_ixT (ev_var rfl) ev_int rfl) ev_int) (congrArg eB (decide_eq_true h1.1)))
def R_require_readings (es : List Ent) (y : Ent) : Prop := ∃ (l : List (Int × Int)), es = [.dat (rdD l), eI l.length] ∧ l.length ≤ 100 ∧ (∀ p ∈ l, RdOk p) ∧ y = eN
abbrev s_require_readings : Stmt := (topS 24)
abbrev N_require_readings : List Str := ["value", "clocks"]
theorem sc_require_readings : FnScope N_require_readings ["value", "clocks"] (defScope s_require_readings) := ⟨rfl, rfl, rfl, by decide +kernel, rfl, by decide +kernel, by decide +kernel⟩
theorem ok_require_readings {f : Addr} {fd : FuncData} (F : Fun G.K "require_readings" "require_readings" s_require_readings f fd) (B : Bi mg)  (h_are_readings : Has P w G.K mg base "are_readings" 4 ["value", "clocks"] (spE G 2 R_are_readings)) : FnOk P w G.K mg base CX0 5 f fd ["value", "clocks"] (spE G 2 R_require_readings) := by
  refine F.ok sc_require_readings (fun vs H Q E h => h.1) (fun cdv A outer s H vs Q E hr h => ⟨_, (pss_one (ps_if (pt_not (pt_val (pe_fn h_are_readings hr (by decide) (pa_cons (pv 0) (pa_cons (pv 1) pa_nil))))) (pss_one ps_never) pss_nil)), ?_⟩)
  obtain ⟨_, S, es, y, dm, rl, hR, kk⟩ := h
  refine fn_run dm rl kk ?_
  clear kk rl dm
  obtain ⟨l, rfl, hl, hs, rfl⟩ := hR
  exact em_gate (et_notT (et_test (ev_call (ea_cons (ev_var rfl) (ea_cons (ev_var rfl) ea_nil)) ⟨l, rfl, hl, hs, rfl⟩))) rfl
def R_told_bounds (es : List Ent) (y : Ent) : Prop := ∃ (n u : Nat) (m : Mat), es = [eI n, eI u, .dat (matD m)] ∧ (1 ≤ n ∧ n ≤ 3) ∧ (1 ≤ u ∧ u ≤ 64) ∧ Sq (n + 1) m ∧ Short m ∧ y = .dat (matD m)
abbrev s_told_bounds : Stmt := (topS 38)
abbrev N_told_bounds : List Str := ["clocks", "unit", "bounds"]
theorem sc_told_bounds : FnScope N_told_bounds ["clocks", "unit", "bounds"] (defScope s_told_bounds) := ⟨rfl, rfl, rfl, by decide +kernel, rfl, by decide +kernel, by decide +kernel⟩
theorem ok_told_bounds {f : Addr} {fd : FuncData} (F : Fun G.K "told_bounds" "told_bounds" s_told_bounds f fd) (B : Bi mg)  (h_require_from : Has P w G.K mg base "require_from" 3 ["value", "least", "most"] (spE G 3 R_require_from)) (h_is_bounds : Has P w G.K mg base "is_bounds" 4 ["value", "clocks"] (spE G 2 R_is_bounds)) : FnOk P w G.K mg base CX0 5 f fd ["clocks", "unit", "bounds"] (spE G 3 R_told_bounds) := by
  refine F.ok sc_told_bounds (fun vs H Q E h => h.1) (fun cdv A outer s H vs Q E hr h => ⟨_, (pss_cons (ps_expr (pe_fn h_require_from hr (by decide) (pa_cons (pv 0) (pa_cons pe_int (pa_cons (pe_gi B.g_MOST_CLOCKS) pa_nil)))))
      (pss_cons (ps_expr (pe_fn h_require_from hr (by decide) (pa_cons (pv 1) (pa_cons pe_int (pa_cons (pe_gi B.g_MOST_UNIT) pa_nil)))))
      (pss_cons (ps_if (pt_not (pt_val (pe_fn h_is_bounds hr (by decide) (pa_cons (pv 2) (pa_cons (pv 0) pa_nil))))) (pss_one ps_never) pss_nil)
      (pss_one (ps_ret (pv 2)))))), ?_⟩)
  obtain ⟨_, S, es, y, dm, rl, hR, kk⟩ := h
  refine fn_run dm rl kk ?_
  clear kk rl dm
  obtain ⟨n, u, m, rfl, hn, hu, sq, hs, rfl⟩ := hR
  refine em_seq (N1 := fun ρ om => ρ = [some (eI n), some (eI u), some (.dat (matD m))] ∧ om = []) (em_drop (ev_call (ea_cons (ev_var rfl) (ea_cons ev_int (ea_cons ev_int ea_nil))) ⟨n, 1, 3, rfl, by omega, by omega, rfl⟩) ⟨rfl, rfl⟩) ?_
  rintro ρ om ⟨rfl, rfl⟩
  refine em_seq (N1 := fun ρ om => ρ = [some (eI n), some (eI u), some (.dat (matD m))] ∧ om = []) (em_drop (ev_call (ea_cons (ev_var rfl) (ea_cons ev_int (ea_cons ev_int ea_nil))) ⟨u, 1, 64, rfl, by omega, by omega, rfl⟩) ⟨rfl, rfl⟩) ?_
  rintro ρ om ⟨rfl, rfl⟩
  refine em_seq (N1 := fun ρ om => ρ = [some (eI n), some (eI u), some (.dat (matD m))] ∧ om = []) (em_gate (et_notT (et_test (ev_call (ea_cons (ev_var rfl) (ea_cons (ev_var rfl) ea_nil)) ⟨n, m, rfl, sq, by omega, hs, rfl⟩))) ⟨rfl, rfl⟩) ?_
  rintro ρ om ⟨rfl, rfl⟩
  exact em_ret (ev_var rfl) rfl
end
end Ek
end

section
set_option Elab.async false
set_option linter.all false
set_option maxRecDepth 100000
set_option maxHeartbeats 4000000
namespace Ek
open PySem PySem.Spec PyProof.Rows L2 K18
open Evl (Ex ex_rd ex_l ex_t fresh_back sz_of sz_lt)
section
variable {P : Program} {w : World} {mg : Str → Option Value} {base : Heap} {G : Gd}
def R_z_shared (es : List Ent) (y : Ent) : Prop := ∃ m n : Nat, es = [eI m, eI n] ∧ y = eI ((Nat.gcd m n : Nat) : Int)
abbrev s__law_zw_shared : Stmt := (topS 52)
abbrev N__law_zw_shared : List Str := ["_law_one", "_law_other"]
theorem sc__law_zw_shared : FnScope N__law_zw_shared ["_law_one", "_law_other"] (defScope s__law_zw_shared) := ⟨rfl, rfl, rfl, by decide +kernel, rfl, by decide +kernel, by decide +kernel⟩
theorem ok__law_zw_shared {f : Addr} {fd : FuncData} (F : Fun G.K "_law_zw_shared" "_law_zw_shared" s__law_zw_shared f fd) (B : Bi mg)   : FnOk P w G.K mg base CX0 1 f fd ["_law_one", "_law_other"] (spE G 2 R_z_shared) := by
  refine F.ok sc__law_zw_shared (fun vs H Q E h => h.1) (fun cdv A outer s H vs Q E hr h => ⟨_, (pss_cons (ps_while PassesOwn.never (pt_cmpR op_gt (pv 1) pe_int (nomark _)) (pss_one (ps_par (i := 0) (j := 1) (by rfl) sc__law_zw_shared.nd rfl rfl (by decide) rfl rfl (pa_cons (pv 1) (pa_cons (pe_op op_mod (pe_callTy call_int1 (by rfl) B.int (by decide +kernel) (pa_cons (pv 0) pa_nil)) (pv 1)) pa_nil)) (by rfl))))
      (pss_one (ps_ret (pv 0)))), ?_⟩)
  obtain ⟨_, S, es, y, dm, rl, hR, kk⟩ := h
  refine fn_run dm rl kk ?_
  clear kk rl dm
  obtain ⟨m, n, rfl, rfl⟩ := hR
  refine em_seq (N1 := fun ρ om => ρ = [some (eI ((Nat.gcd m n : Nat) : Int)), some (eI 0)] ∧ om = []) (em_while (fun k ρ om => ∃ a b : Nat, ρ = [some (eI a), some (eI b)] ∧ om = [] ∧ Nat.gcd a b = Nat.gcd m n ∧ k = b) n ⟨m, n, rfl, rfl, rfl, rfl⟩ ?_) ?_
  · rintro k ρ om ⟨a, b, rfl, rfl, hg, rfl⟩
    refine ⟨_, et_test (ev_B0 (ev_var rfl) ev_int), fun h => ?_, fun h => ?_⟩
    · have hb : (0 : Int) < k := of_decide_eq_true h
      refine em_parDD (ea_cons (ev_var rfl) (ea_cons (ev_I (ev_cb (ea_cons (ev_var rfl) ea_nil) rc_int) (ev_var rfl) hb) ea_nil)) (by simp [slots]) (by simp [slots]) ⟨a % k, Nat.mod_lt _ (by omega), k, a % k, ?_, rfl, ?_, rfl⟩
      · show [some (eI (k : Int)), some (eI ((a : Int) % (k : Int)))] = _
        rw [Int.natCast_emod]
      · rw [Nat.gcd_comm k, ← Nat.gcd_rec, Nat.gcd_comm]
        exact hg
    · have hb : ¬ (0 : Int) < k := of_decide_eq_false h
      have e : k = 0 := by omega
      subst e
      rw [Nat.gcd_zero_right] at hg
      subst hg
      exact ⟨rfl, rfl⟩
  · rintro ρ om ⟨rfl, rfl⟩
    exact em_ret (ev_var rfl) rfl
def R_z_fraction (es : List Ent) (y : Ent) : Prop := ∃ (t : Int) (u : Nat), es = [eI t, eI u] ∧ 0 < u ∧ u ≤ 64 ∧ y = .dat (frD (lowF t u))
abbrev s__law_zw_fraction : Stmt := (topS 53)
abbrev N__law_zw_fraction : List Str := ["_law_top", "_law_bottom", "_law_shared"]
theorem sc__law_zw_fraction : FnScope N__law_zw_fraction ["_law_top", "_law_bottom"] (defScope s__law_zw_fraction) := ⟨rfl, rfl, rfl, by decide +kernel, rfl, by decide +kernel, by decide +kernel⟩
theorem ok__law_zw_fraction {f : Addr} {fd : FuncData} (F : Fun G.K "_law_zw_fraction" "_law_zw_fraction" s__law_zw_fraction f fd) (B : Bi mg)  (h__law_zw_shared : Has P w G.K mg base "_law_zw_shared" 1 ["_law_one", "_law_other"] (spE G 2 R_z_shared)) : FnOk P w G.K mg base CX0 2 f fd ["_law_top", "_law_bottom"] (spE G 2 R_z_fraction) := by
  refine F.ok sc__law_zw_fraction (fun vs H Q E h => h.1) (fun cdv A outer s H vs Q E hr h => ⟨_, (pss_cons (ps_set (i := 2) sc__law_zw_fraction.nd rfl (Or.inl rfl) (pe_fn h__law_zw_shared hr (by decide) (pa_cons (pe_callB call_abs (by rfl) B.abs (by decide +kernel) (pa_cons (pv 0) pa_nil)) (pa_cons (pv 1) pa_nil))))
      (pss_one (ps_ret (pe_tup (pa_cons (pe_op op_fdiv (pv 0) (pv 2)) (pa_cons (pe_op op_fdiv (pv 1) (pv 2)) pa_nil)))))), ?_⟩)
  obtain ⟨_, S, es, y, dm, rl, hR, kk⟩ := h
  refine fn_run dm rl kk ?_
  clear kk rl dm
  obtain ⟨t, u, rfl, h0, h1, rfl⟩ := hR
  refine em_seq (N1 := fun ρ om => ρ = [some (eI t), some (eI u), some (eI ((Nat.gcd t.natAbs u : Nat) : Int))] ∧ om = []) (em_asg (ev_call (ea_cons (Ev.to (ev_cb (ea_cons (ev_var rfl) ea_nil) rc_abs) (by rw [abs_nat])) (ea_cons (ev_var rfl) ea_nil)) ⟨t.natAbs, u, rfl, rfl⟩) (by simp [slots]) ⟨rfl, rfl⟩) ?_
  rintro ρ om ⟨rfl, rfl⟩
  have hd := gcd_div (t := t.natAbs) h0 h1
  exact em_ret (ev_tup (ds := [.int _, .int _]) (ea_cons (ev_I (ev_var rfl) (ev_var rfl) hd) (ea_cons (ev_I (ev_var rfl) (ev_var rfl) hd) ea_nil)) (Nat.le_of_ble_eq_true rfl)) rfl
def R_z_counted (es : List Ent) (y : Ent) : Prop := ∃ (n : Nat) (m : Mat) (i j : Nat), es = [.dat (matD m), eI i, eI j] ∧ Sq n m ∧ i < n ∧ j < n ∧ y = eO (countedAt m i j)
abbrev s__law_zw_counted : Stmt := (topS 54)
abbrev N__law_zw_counted : List Str := ["_law_bounds", "_law_i", "_law_j", "_law_one"]
theorem sc__law_zw_counted : FnScope N__law_zw_counted ["_law_bounds", "_law_i", "_law_j"] (defScope s__law_zw_counted) := ⟨rfl, rfl, rfl, by decide +kernel, rfl, by decide +kernel, by decide +kernel⟩
theorem ok__law_zw_counted {f : Addr} {fd : FuncData} (F : Fun G.K "_law_zw_counted" "_law_zw_counted" s__law_zw_counted f fd) (B : Bi mg)   : FnOk P w G.K mg base CX0 1 f fd ["_law_bounds", "_law_i", "_law_j"] (spE G 3 R_z_counted) := by
  refine F.ok sc__law_zw_counted (fun vs H Q E h => h.1) (fun cdv A outer s H vs Q E hr h => ⟨_, (pss_cons (ps_set (i := 3) sc__law_zw_counted.nd rfl (Or.inl rfl) (pe_ix (Kv.ix_tupK G.K) (pe_ix (Kv.ix_tupK G.K) (pv 0) (pv 1) (fun _ _ => rfl)) (pv 2) (fun _ _ => rfl)))
      (pss_cons (ps_if (PW.pt (pw_or (pt_cmpR op_eq (pv 1) (pv 2) (nomark _)) (pw_or1 (pt_cmpR op_eq (pv 1) pe_int (nomark _))))) (pss_one (ps_ret (pe_ifExp (PW.pt (pw_or (pt_cmpR op_isN (pv 3) pe_non (nomark _)) (pw_or1 (pt_cmpR op_gt (pv 3) pe_int (nomark _))))) pe_int (pv 3)))) pss_nil)
      (pss_one (ps_ret (pv 3))))), ?_⟩)
  obtain ⟨_, S, es, y, dm, rl, hR, kk⟩ := h
  refine fn_run dm rl kk ?_
  clear kk rl dm
  obtain ⟨n, m, i, j, rfl, sq, hi, hj, rfl⟩ := hR
  refine em_seq (N1 := fun ρ om => ρ = [some (.dat (matD m)), some (eI i), some (eI j), some (eO (ent m i j))] ∧ om = []) (em_asg (ev_ixT (ev_ixT (ev_var rfl) (ev_var rfl) (at_mat sq hi)) (ev_var rfl) (at_ent sq hi hj)) (by simp [slots]) ⟨rfl, rfl⟩) ?_
  rintro ρ om ⟨rfl, rfl⟩
  refine em_seq (N1 := fun ρ om => ¬ (i = 0 ∨ i = j) ∧ ρ = [some (.dat (matD m)), some (eI i), some (eI j), some (eO (ent m i j))] ∧ om = []) (em_if (et_or (et_test (ev_eqI (ev_var rfl) (ev_var rfl))) fun _ => et_test (ev_eqI (ev_var rfl) ev_int)) (fun z => ?_) fun z => em_next ⟨?_, rfl, rfl⟩) ?_
  · have hz : i = 0 ∨ i = j := by
      simp only [Bool.or_eq_true, decide_eq_true_eq] at z
      omega
    unfold countedAt
    rw [if_pos hz]
    cases h : ent m i j with
    | none => exact em_ret (ev_ifT (et_orT (et_test (ev_isNb (ev_var rfl)))) ev_int) rfl
    | some x =>
      refine em_ret (x := eI (if 0 < x then 0 else x)) (ev_if (et_orF (et_test (ev_isNb (ev_var rfl))) (et_test (ev_B0 (ev_var rfl) ev_int))) (fun z => Ev.to ev_int ?_) fun z => Ev.to (ev_var rfl) ?_) rfl
      · rw [if_pos (of_decide_eq_true z)]
      · rw [if_neg (of_decide_eq_false z)]
        rfl
  · simp only [Bool.or_eq_false_iff, decide_eq_false_iff_not] at z
    omega
  · rintro ρ om ⟨hz, rfl, rfl⟩
    refine em_ret (ev_var rfl) ?_
    unfold countedAt
    rw [if_neg hz]
end
end Ek
end

section
set_option Elab.async false
set_option linter.all false
set_option maxRecDepth 100000
set_option maxHeartbeats 4000000
namespace Ek
open PySem PySem.Spec PyProof.Rows L2 K18
open Evl (Ex ex_rd ex_l ex_t fresh_back sz_of sz_lt)
def rowT (r : List Nat) : PyData := .tuple (r.map fun (x : Nat) => .int (x : Int))
theorem in_rowT (a : Nat) : ∀ r : List Nat, inD (.int (a : Int)) (r.map fun (x : Nat) => PyData.int (x : Int)) = r.contains a
  | [] => rfl
  | x :: r => by
    have ih := in_rowT a r
    unfold inD at *
    rw [List.map_cons, List.any_cons, ih, List.contains_cons]
    congr 1
    show ((x : Int) == (a : Int)) = (a == x)
    rw [Bool.eq_iff_iff]
    simp only [beq_iff_eq]
    omega
theorem flat_rowT (r : List Nat) : (r.map fun (x : Nat) => PyData.int (x : Int)).all flatD = true := by
  rw [List.all_map]
  exact List.all_eq_true.mpr fun _ _ => rfl
theorem rows_len {n : Nat} (hn : n ≤ 4) (b g : Nat) : ∀ t, t ≤ 4 → (rowsFrom n g t ([], [[b]])).2.length ≤ 4 ^ t ∧ (rowsFrom n g t ([], [[b]])).1.length ≤ t * 256
  | 0, _ => by simp [rowsFrom]
  | t + 1, ht => by
    obtain ⟨h2, h1⟩ := rows_len hn b g t (by omega)
    have e : rowsFrom n g (t + 1) ([], [[b]]) = rowsStep n g (rowsFrom n g t ([], [[b]])) := rfl
    rw [e]
    generalize rowsFrom n g t ([], [[b]]) = s at h1 h2
    have key : ∀ l : List (List Nat), (l.flatMap fun r => ((List.range n).filter fun a => !r.contains a).map fun a => r ++ [a]).length ≤ 4 * l.length := by
      intro l
      induction l with
      | nil => simp
      | cons r l ih =>
        rw [List.flatMap_cons, List.length_append, List.length_map, List.length_cons]
        have := List.length_filter_le (fun a => !r.contains a) (List.range n)
        rw [List.length_range] at this
        omega
    have k4 : 4 ^ t ≤ 256 := Nat.le_trans (Nat.pow_le_pow_right (by decide) (show t ≤ 4 by omega)) (by decide)
    unfold rowsStep
    have f1 := List.length_filter_le (fun r => r.getLast? == some g) s.2
    have f2 := List.length_filter_le (fun r => !(r.getLast? == some g)) s.2
    have f3 := key (s.2.filter (fun r => !(r.getLast? == some g)))
    refine ⟨?_, ?_⟩
    · show (List.flatMap _ _).length ≤ 4 ^ (t + 1)
      rw [Nat.pow_succ]
      omega
    · show (s.1 ++ _).length ≤ (t + 1) * 256
      rw [List.length_append]
      omega
theorem rows_ne {n b g : Nat} : ∀ t, ∀ r ∈ (rowsFrom n g t ([], [[b]])).2, r.length = t + 1
  | 0, r, h => by
    have : r = [b] := by simpa [rowsFrom] using h
    rw [this]
    rfl
  | t + 1, r, h => by
    have e : rowsFrom n g (t + 1) ([], [[b]]) = rowsStep n g (rowsFrom n g t ([], [[b]])) := rfl
    rw [e] at h
    unfold rowsStep at h
    obtain ⟨q, h1, h2⟩ := List.mem_flatMap.mp h
    obtain ⟨a, _, rfl⟩ := List.mem_map.mp h2
    rw [List.length_append, rows_ne t q (List.mem_filter.mp h1).1]
    rfl
/-- what one turn has done behind k rows -/
def fndK (g : Nat) (s : List (List Nat) × List (List Nat)) (k : Nat) : List (List Nat) := s.1 ++ (s.2.take k).filter (fun r => r.getLast? == some g)
def lngK (n g : Nat) (s : List (List Nat) × List (List Nat)) (k : Nat) : List (List Nat) := ((s.2.take k).filter (fun r => !(r.getLast? == some g))).flatMap fun r => ((List.range n).filter fun a => !r.contains a).map fun a => r ++ [a]
theorem take_one {α : Type} {l : List α} {k : Nat} (d : α) (h : k < l.length) : l.take (k + 1) = l.take k ++ [l.getD k d] := by
  rw [List.take_add_one, List.getElem?_eq_getElem h, List.getD_eq_getElem?_getD, List.getElem?_eq_getElem h]
  rfl
theorem lngK_len {n g : Nat} (hn : n ≤ 4) (s : List (List Nat) × List (List Nat)) (k : Nat) : (lngK n g s k).length ≤ 4 * k := by
  have key : ∀ l : List (List Nat), (l.flatMap fun r => ((List.range n).filter fun a => !r.contains a).map fun a => r ++ [a]).length ≤ 4 * l.length := by
    intro l
    induction l with
    | nil => simp
    | cons r l ih =>
      rw [List.flatMap_cons, List.length_append, List.length_map, List.length_cons]
      have := List.length_filter_le (fun a => !r.contains a) (List.range n)
      rw [List.length_range] at this
      omega
  have f2 := List.length_filter_le (fun r => !(r.getLast? == some g)) (s.2.take k)
  have f3 := key ((s.2.take k).filter (fun r => !(r.getLast? == some g)))
  rw [List.length_take] at f2
  unfold lngK
  omega
section
variable {P : Program} {w : World} {mg : Str → Option Value} {base : Heap} {G : Gd}
def R_z_rows (es : List Ent) (y : Ent) : Prop := ∃ n b g : Nat, es = [eI n, eI b, eI g] ∧ n ≤ 4 ∧ y = .dat (.list ((zwRows n b g).map rowT))
abbrev s__law_zw_rows : Stmt := (topS 55)
abbrev N__law_zw_rows : List Str := ["_law_size", "_law_begin", "_law_goal", "_law_found", "_law_here", "_law_turn", "_law_longer", "_law_row", "_law_at"]
theorem sc__law_zw_rows : FnScope N__law_zw_rows ["_law_size", "_law_begin", "_law_goal"] (defScope s__law_zw_rows) := ⟨rfl, rfl, rfl, by decide +kernel, rfl, by decide +kernel, by decide +kernel⟩
theorem ok__law_zw_rows {f : Addr} {fd : FuncData} (F : Fun G.K "_law_zw_rows" "_law_zw_rows" s__law_zw_rows f fd) (B : Bi mg)   : FnOk P w G.K mg base CX0 1 f fd ["_law_size", "_law_begin", "_law_goal"] (spE G 3 R_z_rows) := by
  refine F.ok sc__law_zw_rows (fun vs H Q E h => h.1) (fun cdv A outer s H vs Q E hr h => ⟨_, (pss_cons (ps_par (i := 3) (j := 4) (by rfl) sc__law_zw_rows.nd rfl rfl (by decide) rfl rfl (pa_cons (pe_lst pa_nil) (pa_cons (pe_lst (pa_cons (pe_tup (pa_cons (pv 1) pa_nil)) pa_nil)) pa_nil)) (by rfl))
      (pss_cons (ps_for PassesOwn.never rfl (pi_range1 (by rfl) B.range (pa_cons (pv 0) pa_nil)) (pg_name (i := 5) sc__law_zw_rows.nd rfl (Or.inl rfl)) (pss_cons (ps_set (i := 6) sc__law_zw_rows.nd rfl (Or.inl rfl) (pe_lst pa_nil))
      (pss_cons (ps_for PassesOwn.never rfl (Kv.pi_listK G.K (pv 4)) (pg_name (i := 7) sc__law_zw_rows.nd rfl (Or.inr rfl)) (pss_one (ps_if (pt_cmpR op_eq (pe_ix (Kv.ix_tupK G.K) (pv 7) (pe_un un_neg pe_int) (fun _ _ => rfl)) (pv 2) (nomark _)) (pss_one (ps_expr (pe_bm PySem.F.plainAttrs_list PySem.F.slot_list_append PySem.F.type_list_append mt_append (pv 3) (pa_cons (pv 7) pa_nil)))) (pss_one (ps_expr (pe_bm PySem.F.plainAttrs_list PySem.F.slot_list_extend PySem.F.type_list_extend mt_extend (pv 6) (pa_cons (pe_lc rfl sc__law_zw_rows.nd (pi_range1 (by rfl) B.range (pa_cons (pv 0) pa_nil)) (blkOk_by (own := [("_law_at", 8)]) (N := N__law_zw_rows) (sc := (defScope s__law_zw_rows)) (by decide +kernel)) (fun _ _ _ _ _ => (pg_name (i := 8) sc__law_zw_rows.nd rfl (Or.inl rfl))) (fun _ _ _ _ _ => (pts_one (pt_cmpR (Kv.op_notInK G.K) (pv 8) (pv 7) (by with_unfolding_all rfl)))) (fun _ _ _ _ _ => (pe_op (Kv.op_catAK G.K) (pv 7) (pe_tup (pa_cons (pv 8) pa_nil))))) pa_nil)))))))
      (pss_one (ps_set (i := 4) sc__law_zw_rows.nd rfl (Or.inl rfl) (pv 6))))))
      (pss_one (ps_ret (pv 3))))), ?_⟩)
  obtain ⟨_, S, es, y, dm, rl, hR, kk⟩ := h
  refine fn_run dm rl kk ?_
  clear kk rl dm
  obtain ⟨n, b, g, rfl, hn, rfl⟩ := hR
  let St : Nat → Rho → Om → Prop := fun t ρ om => (∃ r5 r6 r7, ρ = [some (eI n), some (eI b), some (eI g), none, some (.dat (.list ((rowsFrom n g t ([], [[b]])).2.map rowT))), r5, r6, r7, none]) ∧ om = [(3, (rowsFrom n g t ([], [[b]])).1.map rowT)]
  refine em_seq (N1 := St 0) (em_parLD (el_lst (ds := []) ea_nil (Nat.le_of_ble_eq_true rfl)) (El.ed (el_lst (ds := [rowT [b]]) (ea_cons (ev_tup (ds := [.int b]) (ea_cons (ev_var rfl) ea_nil) (Nat.le_of_ble_eq_true rfl)) ea_nil) (Nat.le_of_ble_eq_true rfl))) (by simp [slots]) (by simp [slots]) (by decide) (by show 3 < 9; decide) ⟨⟨none, none, none, rfl⟩, rfl⟩) ?_
  rintro ρ om ⟨⟨r5, r6, r7, rfl⟩, rfl⟩
  refine em_seq (N1 := St n) (em_for (js := [5]) (xs := (List.range n).map fun (i : Nat) => eI i) (sr_rng (ea_cons (ev_var rfl) ea_nil) (by omega)) St ⟨⟨r5, r6, r7, rfl⟩, rfl⟩ ?_ fun ρ om h => by rw [List.length_map, List.length_range] at h; exact h) ?_
  · rintro t e ρ om ht ⟨⟨r5, r6, r7, rfl⟩, rfl⟩
    obtain ⟨ht1, rfl⟩ := rg_get ht
    refine ⟨by simp [slots], _, tg_name, ?_⟩
    have hlen := rows_len hn b g t (by omega)
    have hne := rows_ne (n := n) (b := b) (g := g) t
    have hst : rowsFrom n g (t + 1) ([], [[b]]) = rowsStep n g (rowsFrom n g t ([], [[b]])) := rfl
    show Em _ _ _ _ _ (St (t + 1))
    generalize hs : rowsFrom n g t ([], [[b]]) = s at hlen hne hst
    have k4 : 4 ^ t ≤ 256 := Nat.le_trans (Nat.pow_le_pow_right (by decide) (show t ≤ 4 by omega)) (by decide)
    let Sk : Nat → Rho → Om → Prop := fun k ρ om => (∃ r7, ρ = [some (eI n), some (eI b), some (eI g), none, some (.dat (.list (s.2.map rowT))), some (eI t), none, r7, none]) ∧ om = [(6, (lngK n g s k).map rowT), (3, (fndK g s k).map rowT)]
    refine em_seq (N1 := Sk 0) (em_new (ds := []) (el_lst (ds := []) ea_nil (Nat.le_of_ble_eq_true rfl)) (by simp [slots]) (by show 6 < 9; decide) ⟨⟨r7, rfl⟩, ?_⟩) ?_
    · show [(6, []), (3, s.1.map rowT)] = [(6, (lngK n g s 0).map rowT), (3, (fndK g s 0).map rowT)]
      unfold lngK fndK
      simp
    rintro ρ om ⟨⟨r7, rfl⟩, rfl⟩
    refine em_seq (N1 := Sk s.2.length) (em_for (js := [7]) (xs := s.2.map fun r => .dat (rowT r)) (sr_lstM (ev_var rfl)) Sk ⟨⟨r7, rfl⟩, rfl⟩ ?_ fun ρ om h => by rw [List.length_map] at h; exact h) ?_
    · rintro k e ρ om hk ⟨⟨r7, rfl⟩, rfl⟩
      obtain ⟨hk1, rfl⟩ := mp_get [] hk
      refine ⟨by simp [slots], _, tg_name, ?_⟩
      have hm : s.2.getD k [] ∈ s.2 := by
        rw [List.getD_eq_getElem?_getD, List.getElem?_eq_getElem hk1]
        exact List.getElem_mem hk1
      have ht' := take_one [] hk1
      generalize hr : s.2.getD k [] = r at hm ht'
      obtain ⟨x, hx⟩ : ∃ x, r.getLast? = some x := by
        cases h : r.getLast? with
        | none => have q := hne r hm; rw [List.getLast?_eq_none_iff.mp h] at q; cases q
        | some x => exact ⟨x, rfl⟩
      have hb : (r.getLast? == some g) = decide ((x : Int) = (g : Int)) := by
        rw [hx, Bool.eq_iff_iff]
        simp
        omega
      have eF : fndK g s (k + 1) = if (r.getLast? == some g) = true then fndK g s k ++ [r] else fndK g s k := by
        unfold fndK
        rw [ht', List.filter_append, List.filter_cons]
        split <;> simp
      have eL : lngK n g s (k + 1) = if (r.getLast? == some g) = true then lngK n g s k else lngK n g s k ++ ((List.range n).filter fun a => !r.contains a).map fun a => r ++ [a] := by
        unfold lngK
        rw [ht', List.filter_append, List.flatMap_append, List.filter_cons]
        cases (r.getLast? == some g) <;> simp
      refine em_if (et_test (ev_eqI (ev_ixT (ev_var rfl) (ev_neg ev_int) (atI_last' (x := PyData.int (x : Int)) (by rw [List.getLast?_map, hx]; rfl))) (ev_var rfl))) (fun z => ?_) fun z => ?_
      · rw [← hb] at z
        rw [if_pos z] at eF eL
        refine em_append (k := 1) rfl (ev_var rfl) (by rw [List.length_map]; unfold fndK; rw [List.length_append]; have := List.length_filter_le (fun r => r.getLast? == some g) (s.2.take k); rw [List.length_take] at this; omega) ⟨⟨_, rfl⟩, ?_⟩
        rw [eF, eL, List.map_append]
        rfl
      · rw [← hb] at z
        rw [if_neg (by rw [z]; exact Bool.false_ne_true)] at eF eL
        refine em_extend (k := 0) (es := (((List.range n).filter fun a => !r.contains a).map fun a => rowT (r ++ [a]))) rfl (el_lcF (js := [8]) (l := List.range n) (enc := fun (a : Nat) => eI a) (fun a => !r.contains a) (fun a => rowT (r ++ [a])) (sr_rng (ea_cons (ev_var rfl) ea_nil) (by omega)) (by rw [List.length_range]; omega) (by simp) fun a ha => ⟨_, tg_name, Et.to (et_test (ev_in (ev_var rfl) (.inl (ev_var rfl)) rfl (flat_rowT r) true)) ?_, fun _ => Ev.to (ev_catT (ev_var rfl) (ev_tup (ds := [.int a]) (ea_cons (ev_var rfl) ea_nil) (Nat.le_of_ble_eq_true rfl)) ?_) ?_⟩) ?_ ⟨⟨_, rfl⟩, ?_⟩
        · rw [in_rowT]
          rfl
        · rw [List.length_map, hne r hm]
          show t + 1 + 1 ≤ 100000
          omega
        · unfold rowT
          rw [List.map_append]
          rfl
        · rw [List.length_map, List.length_map]
          have := lngK_len (n := n) (g := g) hn s k
          have q := List.length_filter_le (fun a => !r.contains a) (List.range n)
          rw [List.length_range] at q
          omega
        · rw [eF, eL, List.map_append, List.map_map]
          rfl
    · rintro ρ om ⟨⟨r7, rfl⟩, rfl⟩
      have e1 : lngK n g s s.2.length = (rowsStep n g s).2 := by unfold lngK rowsStep; rw [List.take_length]
      have e2 : fndK g s s.2.length = (rowsStep n g s).1 := by unfold fndK rowsStep; rw [List.take_length]
      rw [e1, e2, ← hst]
      exact em_free (by simp [slots]) ⟨⟨_, _, _, rfl⟩, rfl⟩
  · rintro ρ om ⟨⟨r5, r6, r7, rfl⟩, rfl⟩
    exact em_var rfl rfl
end
end Ek
end

section
set_option Elab.async false
set_option linter.all false
set_option maxRecDepth 100000
set_option maxHeartbeats 4000000
namespace Ek
open PySem PySem.Spec PyProof.Rows L2 K18
open Evl (Ex ex_rd ex_l ex_t fresh_back sz_of sz_lt)
/-! ### sums along a row -/
def osum : List OI → OI
  | [] => some 0
  | a :: r => addO a (osum r)
theorem sumP_zip (W : Nat → Nat → OI) : ∀ r : List Nat, sumP W r = osum ((r.zip (r.drop 1)).map fun p => W p.1 p.2)
  | [] => rfl
  | [_] => rfl
  | a :: b :: r => by
    have ih := sumP_zip W (b :: r)
    show addO (W a b) (sumP W (b :: r)) = _
    rw [ih]
    rfl
theorem osum_cases : ∀ l : List OI, (inD .none (l.map oi) = true ∧ osum l = none) ∨ (inD .none (l.map oi) = false ∧ ∃ is : List Int, l = is.map some ∧ osum l = some is.sum)
  | [] => .inr ⟨rfl, [], rfl, rfl⟩
  | none :: l => .inl ⟨rfl, rfl⟩
  | some a :: l => by
    rcases osum_cases l with ⟨h1, h2⟩ | ⟨h1, is, rfl, h2⟩
    · refine .inl ⟨?_, by show addO (some a) (osum l) = none; rw [h2]; rfl⟩
      unfold inD at *
      rw [List.map_cons, List.any_cons, h1]
      exact Bool.or_true _
    · refine .inr ⟨?_, a :: is, rfl, by show addO (some a) (osum _) = _; rw [h2]; rfl⟩
      unfold inD at *
      rw [List.map_cons, List.any_cons, h1]
      rfl
section
variable {P : Program} {w : World} {mg : Str → Option Value} {base : Heap} {G : Gd}
def R_z_sum (es : List Ent) (y : Ent) : Prop := ∃ (n : Nat) (m : Mat) (r : List Nat), es = [.dat (matD m), .dat (rowT r)] ∧ Sq n m ∧ (∀ x ∈ r, x < n) ∧ r.length ≤ 100 ∧ y = eO (zwSum m r)
abbrev s__law_zw_sum : Stmt := (topS 56)
abbrev N__law_zw_sum : List Str := ["_law_bounds", "_law_row", "_law_i", "_law_j", "_law_some"]
theorem sc__law_zw_sum : FnScope N__law_zw_sum ["_law_bounds", "_law_row"] (defScope s__law_zw_sum) := ⟨rfl, rfl, rfl, by decide +kernel, rfl, by decide +kernel, by decide +kernel⟩
theorem ok__law_zw_sum {f : Addr} {fd : FuncData} (F : Fun G.K "_law_zw_sum" "_law_zw_sum" s__law_zw_sum f fd) (B : Bi mg)  (h__law_zw_counted : Has P w G.K mg base "_law_zw_counted" 1 ["_law_bounds", "_law_i", "_law_j"] (spE G 3 R_z_counted)) : FnOk P w G.K mg base CX0 2 f fd ["_law_bounds", "_law_row"] (spE G 2 R_z_sum) := by
  refine F.ok sc__law_zw_sum (fun vs H Q E h => h.1) (fun cdv A outer s H vs Q E hr h => ⟨_, (pss_cons (ps_setLc (i := 4) rfl sc__law_zw_sum.nd rfl rfl (sw_true rfl rfl rfl (by decide +kernel)) (Kv.pi_zipK G.K (by rfl) B.zip (pa_cons (pv 1) (pa_cons (pe_slice (Kv.sl_tupAK G.K) (pv 1) (po_some pe_int) po_none) pa_nil))) (blkOk_by (own := [("_law_i", 2), ("_law_j", 3)]) (N := N__law_zw_sum) (sc := (defScope s__law_zw_sum)) (by decide +kernel)) (fun _ _ _ _ _ => (Kv.pg_tupK G.K (n := 2) rfl (pgs_cons (pg_name (i := 2) sc__law_zw_sum.nd rfl (Or.inl rfl)) (pgs_cons (pg_name (i := 3) sc__law_zw_sum.nd rfl (Or.inl rfl)) pgs_nil)))) (fun _ _ _ _ _ => pts_nil) (fun _ _ _ _ _ => (pe_fn h__law_zw_counted hr (by decide) (pa_cons (pv 0) (pa_cons (pv 2) (pa_cons (pv 3) pa_nil))))))
      (pss_one (ps_ret (pe_ifExp (pt_cmpR (Kv.op_inK G.K) pe_non (pv 4) (by with_unfolding_all rfl)) pe_non (pe_callB (Kv.cr_sumK G.K) (by rfl) B.sum (by decide +kernel) (pa_cons (pv 4) pa_nil)))))), ?_⟩)
  obtain ⟨_, S, es, y, dm, rl, hR, kk⟩ := h
  refine fn_run dm rl kk ?_
  clear kk rl dm
  obtain ⟨n, m, r, rfl, sq, hb, hl, rfl⟩ := hR
  generalize hq : (r.zip (r.drop 1)).map (fun p => countedAt m p.1 p.2) = l
  have hs : zwSum m r = osum l := by unfold zwSum; rw [sumP_zip, hq]
  rw [hs]
  refine em_seq (N1 := fun ρ om => ρ = [some (.dat (matD m)), some (.dat (rowT r)), none, none, some (.dat (.list (l.map oi)))] ∧ om = []) (em_asg (El.ed (El.to (el_lc (js := [2, 3]) (l := r.zip (r.drop 1)) (enc := fun p => .dat (.tuple [.int (p.1 : Int), .int (p.2 : Int)])) (fun p => oi (countedAt m p.1 p.2)) (sr_zipM (f := fun (x : Nat) => PyData.int (x : Int)) (g := fun (x : Nat) => PyData.int (x : Int)) (ea_cons (ev_var rfl) (ea_cons (ev_slT (ev_var rfl) (fun σ H Q q => ⟨_, rfl, q⟩) (fun σ H Q q => q) ((cut_tail _).trans (by rw [List.map_drop]))) ea_nil))) (by rw [List.length_zip]; omega) (by simp) fun p hp => ⟨_, tg_2, ev_call (ea_cons (ev_var rfl) (ea_cons (ev_var rfl) (ea_cons (ev_var rfl) ea_nil))) ⟨n, m, p.1, p.2, rfl, sq, ?_, ?_, rfl⟩⟩) ?_)) (by simp [slots]) ⟨rfl, rfl⟩) ?_
  · obtain ⟨a, b⟩ := p
    exact hb _ (List.of_mem_zip hp).1
  · obtain ⟨a, b⟩ := p
    exact hb _ (List.mem_of_mem_drop (List.of_mem_zip hp).2)
  · rw [← hq, List.map_map]
    rfl
  rintro ρ om ⟨rfl, rfl⟩
  rcases osum_cases l with ⟨h1, h2⟩ | ⟨h1, is, rfl, h2⟩
  · refine em_ret (ev_ifT (Et.to (et_test (ev_in ev_non (.inr (ev_var rfl)) rfl (flats_oi l) false)) h1) ev_non) ?_
    rw [h2]
    rfl
  · refine em_ret (ev_ifF (Et.to (et_test (ev_in ev_non (.inr (ev_var rfl)) rfl (flats_oi _) false)) h1) (ev_cb (ea_cons (Ev.to (ev_var rfl) (y := .dat (.list (is.map .int))) ?_) ea_nil) rc_sum)) ?_
    · rw [List.map_map]
      rfl
    · rw [h2]
      rfl
def R_z_round (es : List Ent) (y : Ent) : Prop := ∃ (n : Nat) (m : Mat) (r : List Nat), es = [.dat (matD m), .dat (rowT r)] ∧ Sq n m ∧ (∀ x ∈ r, x < n) ∧ r.length ≤ 50 ∧ y = eO (zwSum m (r ++ r.take 1))
abbrev s__law_zw_round_sum : Stmt := (topS 57)
abbrev N__law_zw_round_sum : List Str := ["_law_bounds", "_law_value"]
theorem sc__law_zw_round_sum : FnScope N__law_zw_round_sum ["_law_bounds", "_law_value"] (defScope s__law_zw_round_sum) := ⟨rfl, rfl, rfl, by decide +kernel, rfl, by decide +kernel, by decide +kernel⟩
theorem ok__law_zw_round_sum {f : Addr} {fd : FuncData} (F : Fun G.K "_law_zw_round_sum" "_law_zw_round_sum" s__law_zw_round_sum f fd) (B : Bi mg)  (h__law_zw_sum : Has P w G.K mg base "_law_zw_sum" 2 ["_law_bounds", "_law_row"] (spE G 2 R_z_sum)) : FnOk P w G.K mg base CX0 3 f fd ["_law_bounds", "_law_value"] (spE G 2 R_z_round) := by
  refine F.ok sc__law_zw_round_sum (fun vs H Q E h => h.1) (fun cdv A outer s H vs Q E hr h => ⟨_, (pss_one (ps_ret (pe_fn h__law_zw_sum hr (by decide) (pa_cons (pv 0) (pa_cons (pe_op (Kv.op_catAK G.K) (pv 1) (pe_slice (Kv.sl_tupAK G.K) (pv 1) po_none (po_some pe_int))) pa_nil))))), ?_⟩)
  obtain ⟨_, S, es, y, dm, rl, hR, kk⟩ := h
  refine fn_run dm rl kk ?_
  clear kk rl dm
  obtain ⟨n, m, r, rfl, sq, hb, hl, rfl⟩ := hR
  refine em_ret (ev_call (ea_cons (ev_var rfl) (ea_cons (Ev.to (ev_catT (ev_var rfl) (ev_slT (ev_var rfl) (fun σ H Q q => q) (fun σ H Q q => ⟨_, rfl, q⟩) (cut_one _)) ?_) (y := .dat (rowT (r ++ r.take 1))) ?_) ea_nil)) ⟨n, m, r ++ r.take 1, rfl, sq, ?_, ?_, rfl⟩) rfl
  · rw [List.length_map, List.length_take, List.length_map]
    omega
  · unfold rowT
    rw [List.map_append, List.map_take]
  · intro x hx
    rcases List.mem_append.mp hx with hx | hx
    · exact hb x hx
    · exact hb x (List.mem_of_mem_take hx)
  · rw [List.length_append, List.length_take]
    omega
theorem zw_row {n b g : Nat} (hb : b < n) (hn : n ≤ 4) {r : List Nat} (h : r ∈ zwRows n b g) : (∀ x ∈ r, x < n) ∧ r.length ≤ 4 := by
  obtain ⟨h1, h2⟩ := (mem_rows hb r).mp h
  exact ⟨h1.bd, Nat.le_trans (nodup_len n r h2 h1.bd) hn⟩
theorem zwRows_len {n b g : Nat} (hn : n ≤ 4) : (zwRows n b g).length ≤ 2000 := by
  have := (rows_len hn b g n hn).2
  unfold zwRows
  omega
def R_z_empty (es : List Ent) (y : Ent) : Prop := ∃ (n : Nat) (m : Mat), es = [.dat (matD m)] ∧ Sq n m ∧ n ≤ 4 ∧ y = eB (zwEmpty m)
abbrev s__law_zw_is_empty : Stmt := (topS 58)
abbrev N__law_zw_is_empty : List Str := ["_law_bounds", "_law_size", "_law_begin", "_law_goal", "_law_row", "_law_total"]
theorem sc__law_zw_is_empty : FnScope N__law_zw_is_empty ["_law_bounds"] (defScope s__law_zw_is_empty) := ⟨rfl, rfl, rfl, by decide +kernel, rfl, by decide +kernel, by decide +kernel⟩
theorem ok__law_zw_is_empty {f : Addr} {fd : FuncData} (F : Fun G.K "_law_zw_is_empty" "_law_zw_is_empty" s__law_zw_is_empty f fd) (B : Bi mg)  (h__law_zw_rows : Has P w G.K mg base "_law_zw_rows" 1 ["_law_size", "_law_begin", "_law_goal"] (spE G 3 R_z_rows)) (h__law_zw_round_sum : Has P w G.K mg base "_law_zw_round_sum" 3 ["_law_bounds", "_law_value"] (spE G 2 R_z_round)) : FnOk P w G.K mg base CX0 4 f fd ["_law_bounds"] (spE G 1 R_z_empty) := by
  refine F.ok sc__law_zw_is_empty (fun vs H Q E h => h.1) (fun cdv A outer s H vs Q E hr h => ⟨_, (pss_cons (ps_set (i := 1) sc__law_zw_is_empty.nd rfl (Or.inl rfl) (pe_callB (Kv.call_lenK G.K) (by rfl) B.len (by decide +kernel) (pa_cons (pv 0) pa_nil)))
      (pss_cons (ps_for PassesOwn.never rfl (pi_range1 (by rfl) B.range (pa_cons (pv 1) pa_nil)) (pg_name (i := 2) sc__law_zw_is_empty.nd rfl (Or.inl rfl)) (pss_one (ps_for PassesOwn.never rfl (pi_range1 (by rfl) B.range (pa_cons (pv 1) pa_nil)) (pg_name (i := 3) sc__law_zw_is_empty.nd rfl (Or.inl rfl)) (pss_one (ps_for PassesOwn.never rfl (Kv.pi_listK G.K (pe_fn h__law_zw_rows hr (by decide) (pa_cons (pv 1) (pa_cons (pv 2) (pa_cons (pv 3) pa_nil))))) (pg_name (i := 4) sc__law_zw_is_empty.nd rfl (Or.inl rfl)) (pss_cons (ps_set (i := 5) sc__law_zw_is_empty.nd rfl (Or.inl rfl) (pe_fn h__law_zw_round_sum hr (by decide) (pa_cons (pv 0) (pa_cons (pv 4) pa_nil))))
      (pss_one (ps_if (PW.pt (pw_and (pt_cmpR op_notN (pv 5) pe_non (nomark _)) (pw_and1 (pt_cmpR op_lt (pv 5) pe_int (nomark _))))) (pss_one (ps_ret pe_bl)) pss_nil))))))))
      (pss_one (ps_ret pe_bl)))), ?_⟩)
  obtain ⟨_, S, es, y, dm, rl, hR, kk⟩ := h
  refine fn_run dm rl kk ?_
  clear kk rl dm
  obtain ⟨n, m, rfl, sq, hn, rfl⟩ := hR
  have hl : (m.map rowD).length = n := by rw [List.length_map]; exact sq.len
  have hyes : ∀ b g r, b < n → g < n → r ∈ zwRows n b g → negO (zwSum m (r ++ r.take 1)) = true → zwEmpty m = true := fun b g r hb hg hr h => by
    unfold zwEmpty
    rw [sq.len, List.any_eq_true]
    refine ⟨b, List.mem_range.mpr hb, ?_⟩
    rw [List.any_eq_true]
    refine ⟨g, List.mem_range.mpr hg, ?_⟩
    rw [List.any_eq_true]
    exact ⟨r, hr, h⟩
  let Ok : Nat → Nat → Prop := fun b g => ∀ r ∈ zwRows n b g, negO (zwSum m (r ++ r.take 1)) = false
  refine em_seq (N1 := fun ρ om => ρ = [some (.dat (matD m)), some (eI n), none, none, none, none] ∧ om = []) (em_asg (Ev.to (ev_cb (ea_cons (ev_var rfl) ea_nil) rc_lenT) (by rw [hl])) (by simp [slots]) ⟨rfl, rfl⟩) ?_
  rintro ρ om ⟨rfl, rfl⟩
  refine em_seq (N1 := fun ρ om => (∀ b g, b < n → g < n → Ok b g) ∧ (∃ r2 r3 r4 r5, ρ = [some (.dat (matD m)), some (eI n), r2, r3, r4, r5]) ∧ om = []) (em_for (js := [2]) (xs := (List.range n).map fun (i : Nat) => eI i) (sr_rng (ea_cons (ev_var rfl) ea_nil) (by omega)) (fun k ρ om => (∀ b g, b < k → g < n → Ok b g) ∧ (∃ r2 r3 r4 r5, ρ = [some (.dat (matD m)), some (eI n), r2, r3, r4, r5]) ∧ om = []) ⟨fun b g h => by omega, ⟨_, _, _, _, rfl⟩, rfl⟩ ?_ fun ρ om h => by rw [List.length_map, List.length_range] at h; exact h) ?_
  · rintro b e ρ om hb ⟨ok, ⟨r2, r3, r4, r5, rfl⟩, rfl⟩
    obtain ⟨hb1, rfl⟩ := rg_get hb
    refine ⟨by simp [slots], _, tg_name, ?_⟩
    refine em_for (js := [3]) (xs := (List.range n).map fun (i : Nat) => eI i) (sr_rng (ea_cons (ev_var rfl) ea_nil) (by omega)) (fun k ρ om => (∀ g, g < k → Ok b g) ∧ (∃ r3 r4 r5, ρ = [some (.dat (matD m)), some (eI n), some (eI b), r3, r4, r5]) ∧ om = []) ⟨fun g h => by omega, ⟨_, _, _, rfl⟩, rfl⟩ ?_ fun ρ om h => ?_
    · rintro g e ρ om hg ⟨ok2, ⟨r3, r4, r5, rfl⟩, rfl⟩
      obtain ⟨hg1, rfl⟩ := rg_get hg
      refine ⟨by simp [slots], _, tg_name, ?_⟩
      refine em_for (js := [4]) (xs := (zwRows n b g).map fun r => .dat (rowT r)) (sr_lstM (ev_call (ea_cons (ev_var rfl) (ea_cons (ev_var rfl) (ea_cons (ev_var rfl) ea_nil))) ⟨n, b, g, rfl, hn, rfl⟩)) (fun k ρ om => (∀ r ∈ (zwRows n b g).take k, negO (zwSum m (r ++ r.take 1)) = false) ∧ (∃ r4 r5, ρ = [some (.dat (matD m)), some (eI n), some (eI b), some (eI g), r4, r5]) ∧ om = []) ⟨fun r h => by simp at h, ⟨_, _, rfl⟩, rfl⟩ ?_ fun ρ om h => ?_
      · rintro k e ρ om hk ⟨ok3, ⟨r4, r5, rfl⟩, rfl⟩
        obtain ⟨hk1, rfl⟩ := mp_get [] hk
        refine ⟨by simp [slots], _, tg_name, ?_⟩
        have hm : (zwRows n b g).getD k [] ∈ zwRows n b g := by
          rw [List.getD_eq_getElem?_getD, List.getElem?_eq_getElem hk1]
          exact List.getElem_mem hk1
        have ht' := take_one [] hk1
        generalize (zwRows n b g).getD k [] = r at hm ht'
        obtain ⟨hr1, hr2⟩ := zw_row hb1 hn hm
        refine em_seq (N1 := fun ρ om => ρ = [some (.dat (matD m)), some (eI n), some (eI b), some (eI g), some (.dat (rowT r)), some (eO (zwSum m (r ++ r.take 1)))] ∧ om = []) (em_asg (ev_call (ea_cons (ev_var rfl) (ea_cons (ev_var rfl) ea_nil)) ⟨n, m, r, rfl, sq, hr1, by omega, rfl⟩) (by simp [slots]) ⟨rfl, rfl⟩) ?_
        rintro ρ om ⟨rfl, rfl⟩
        refine em_if (b := negO (zwSum m (r ++ r.take 1))) ?_ (fun z => em_ret ev_bl ?_) fun z => em_next ⟨?_, ⟨_, _, rfl⟩, rfl⟩
        · cases h : zwSum m (r ++ r.take 1) with
          | none => exact et_andF (et_test (ev_notNb (ev_var rfl)))
          | some x => exact et_andT (et_test (ev_notNb (ev_var rfl))) (et_test (ev_B0 (ev_var rfl) ev_int))
        · rw [hyes b g r hb1 hg1 hm z]
        · rw [ht']
          intro q hq
          rcases List.mem_append.mp hq with hq | hq
          · exact ok3 q hq
          · have : q = r := by simpa using hq
            rw [this]
            exact z
      · rw [List.length_map, List.take_length] at h
        obtain ⟨h1, ⟨r4, r5, rfl⟩, rfl⟩ := h
        refine ⟨fun g' hg' => ?_, ⟨_, _, _, rfl⟩, rfl⟩
        by_cases e : g' = g
        · rw [e]
          exact h1
        · exact ok2 g' (by omega)
    · rw [List.length_map, List.length_range] at h
      obtain ⟨h1, ⟨r3, r4, r5, rfl⟩, rfl⟩ := h
      refine ⟨fun b' g' hb' hg' => ?_, ⟨_, _, _, _, rfl⟩, rfl⟩
      by_cases e : b' = b
      · rw [e]
        exact h1 g' hg'
      · exact ok b' g' (by omega) hg'
  · rintro ρ om ⟨ok, ⟨r2, r3, r4, r5, rfl⟩, rfl⟩
    refine em_ret ev_bl ?_
    have : zwEmpty m = false := by
      cases h : zwEmpty m with
      | false => rfl
      | true =>
        unfold zwEmpty at h
        rw [sq.len, List.any_eq_true] at h
        obtain ⟨b, hb, h⟩ := h
        rw [List.any_eq_true] at h
        obtain ⟨g, hg, h⟩ := h
        rw [List.any_eq_true] at h
        obtain ⟨r, hr, h⟩ := h
        rw [ok b g (List.mem_range.mp hb) (List.mem_range.mp hg) r hr] at h
        cases h
    rw [this]
end
end Ek
end

section
set_option Elab.async false
set_option linter.all false
set_option maxRecDepth 100000
set_option maxHeartbeats 4000000
namespace Ek
open PySem PySem.Spec PyProof.Rows L2 K18
open Evl (Ex ex_rd ex_l ex_t fresh_back sz_of sz_lt)
theorem filter_some : ∀ l : List OI, (l.filter (·.isSome)).map oi = (l.filterMap id).map PyData.int
  | [] => rfl
  | none :: l => by
    have := filter_some l
    simpa using this
  | some a :: l => by
    have := filter_some l
    simp only [List.filter_cons, List.filterMap_cons, id, Option.isSome_some, if_true, List.map_cons, this]
    rfl
theorem eqv_nil (l : List Int) : PyData.eqv (.list (l.map .int)) (.list []) = l.isEmpty := by
  cases l <;> rfl
section
variable {P : Program} {w : World} {mg : Str → Option Value} {base : Heap} {G : Gd}
def R_z_closed (es : List Ent) (y : Ent) : Prop := ∃ (n : Nat) (m : Mat), es = [.dat (matD m)] ∧ Sq n m ∧ n ≤ 4 ∧ y = .dat (clD (zwClosed m))
abbrev s__law_zw_closed : Stmt := (topS 59)
abbrev N__law_zw_closed : List Str := ["_law_bounds", "_law_size", "_law_found", "_law_i", "_law_line", "_law_j", "_law_row", "_law_sums", "_law_one", "_law_known"]
theorem sc__law_zw_closed : FnScope N__law_zw_closed ["_law_bounds"] (defScope s__law_zw_closed) := ⟨rfl, rfl, rfl, by decide +kernel, rfl, by decide +kernel, by decide +kernel⟩
theorem ok__law_zw_closed {f : Addr} {fd : FuncData} (F : Fun G.K "_law_zw_closed" "_law_zw_closed" s__law_zw_closed f fd) (B : Bi mg)  (h__law_zw_is_empty : Has P w G.K mg base "_law_zw_is_empty" 4 ["_law_bounds"] (spE G 1 R_z_empty)) (h__law_zw_sum : Has P w G.K mg base "_law_zw_sum" 2 ["_law_bounds", "_law_row"] (spE G 2 R_z_sum)) (h__law_zw_rows : Has P w G.K mg base "_law_zw_rows" 1 ["_law_size", "_law_begin", "_law_goal"] (spE G 3 R_z_rows)) : FnOk P w G.K mg base CX0 5 f fd ["_law_bounds"] (spE G 1 R_z_closed) := by
  refine F.ok sc__law_zw_closed (fun vs H Q E h => h.1) (fun cdv A outer s H vs Q E hr h => ⟨_, (pss_cons (ps_if (pt_val (pe_fn h__law_zw_is_empty hr (by decide) (pa_cons (pv 0) pa_nil))) (pss_one (ps_ret pe_non)) pss_nil)
      (pss_cons (ps_par (i := 1) (j := 2) (by rfl) sc__law_zw_closed.nd rfl rfl (by decide) rfl rfl (pa_cons (pe_callB (Kv.call_lenK G.K) (by rfl) B.len (by decide +kernel) (pa_cons (pv 0) pa_nil)) (pa_cons (pe_lst pa_nil) pa_nil)) (by rfl))
      (pss_cons (ps_for PassesOwn.never rfl (pi_range1 (by rfl) B.range (pa_cons (pv 1) pa_nil)) (pg_name (i := 3) sc__law_zw_closed.nd rfl (Or.inl rfl)) (pss_cons (ps_set (i := 4) sc__law_zw_closed.nd rfl (Or.inl rfl) (pe_lst pa_nil))
      (pss_cons (ps_for PassesOwn.never rfl (pi_range1 (by rfl) B.range (pa_cons (pv 1) pa_nil)) (pg_name (i := 5) sc__law_zw_closed.nd rfl (Or.inl rfl)) (pss_cons (ps_setLc (i := 7) rfl sc__law_zw_closed.nd rfl rfl (sw_true rfl rfl rfl (by decide +kernel)) (Kv.pi_listK G.K (pe_fn h__law_zw_rows hr (by decide) (pa_cons (pv 1) (pa_cons (pv 3) (pa_cons (pv 5) pa_nil))))) (blkOk_by (own := [("_law_row", 6)]) (N := N__law_zw_closed) (sc := (defScope s__law_zw_closed)) (by decide +kernel)) (fun _ _ _ _ _ => (pg_name (i := 6) sc__law_zw_closed.nd rfl (Or.inl rfl))) (fun _ _ _ _ _ => pts_nil) (fun _ _ _ _ _ => (pe_fn h__law_zw_sum hr (by decide) (pa_cons (pv 0) (pa_cons (pv 6) pa_nil)))))
      (pss_cons (ps_setLc (i := 9) rfl sc__law_zw_closed.nd rfl rfl (sw_true rfl rfl rfl (by decide +kernel)) (Kv.pi_listK G.K (pv 7)) (blkOk_by (own := [("_law_one", 8)]) (N := N__law_zw_closed) (sc := (defScope s__law_zw_closed)) (by decide +kernel)) (fun _ _ _ _ _ => (pg_name (i := 8) sc__law_zw_closed.nd rfl (Or.inl rfl))) (fun _ _ _ _ _ => (pts_one (pt_cmpR op_notN (pv 8) pe_non (nomark _)))) (fun _ _ _ _ _ => (pv 8)))
      (pss_one (ps_expr (pe_bm PySem.F.plainAttrs_list PySem.F.slot_list_append PySem.F.type_list_append mt_append (pv 4) (pa_cons (pe_ifExp (pt_cmpR (Kv.op_neDK G.K hr.units) (pv 9) (pe_lst pa_nil) (nomark _)) (pe_callB (Kv.cr_minK G.K) (by rfl) B.min (by decide +kernel) (pa_cons (pv 9) pa_nil)) pe_non) pa_nil)))))))
      (pss_one (ps_expr (pe_bm PySem.F.plainAttrs_list PySem.F.slot_list_append PySem.F.type_list_append mt_append (pv 2) (pa_cons (Kv.pe_tupleOfK G.K (by rfl) B.tuple (pv 4)) pa_nil)))))))
      (pss_one (ps_ret (Kv.pe_tupleOfK G.K (by rfl) B.tuple (pv 2))))))), ?_⟩)
  obtain ⟨_, S, es, y, dm, rl, hR, kk⟩ := h
  refine fn_run dm rl kk ?_
  clear kk rl dm
  obtain ⟨n, m, rfl, sq, hn, rfl⟩ := hR
  have hl : (m.map rowD).length = n := by rw [List.length_map]; exact sq.len
  have hz : zwClosed m = if zwEmpty m then none else some (tab n fun i j => minO ((zwRows n i j).map (zwSum m))) := by
    unfold zwClosed
    rw [sq.len]
  refine em_seq (N1 := fun ρ om => zwEmpty m = false ∧ ρ = [some (.dat (matD m)), none, none, none, none, none, none, none, none, none] ∧ om = []) (em_if (et_test (ev_call (ea_cons (ev_var rfl) ea_nil) ⟨n, m, rfl, sq, hn, rfl⟩)) (fun z => em_ret ev_non (by rw [hz, if_pos z]; rfl)) fun z => em_next ⟨z, rfl, rfl⟩) ?_
  rintro ρ om ⟨z, rfl, rfl⟩
  rw [z, if_neg Bool.false_ne_true] at hz
  let C : Nat → Nat → OI := fun i j => minO ((zwRows n i j).map (zwSum m))
  let St : Nat → Rho → Om → Prop := fun k ρ om => (∃ r3 r4 r5 r6 r7 r8 r9, ρ = [some (.dat (matD m)), some (eI n), none, r3, r4, r5, r6, r7, r8, r9]) ∧ om = [(2, (List.range k).map fun i => rowD ((List.range n).map (C i)))]
  refine em_seq (N1 := St 0) (em_parDL (Ev.to (ev_cb (ea_cons (ev_var rfl) ea_nil) rc_lenT) (by rw [hl])) (el_lst (ds := []) ea_nil (Nat.le_of_ble_eq_true rfl)) (by simp [slots]) (by simp [slots]) (by show 2 < 10; decide) ⟨⟨_, _, _, _, _, _, _, rfl⟩, rfl⟩) ?_
  rintro ρ om ⟨⟨r3, r4, r5, r6, r7, r8, r9, rfl⟩, rfl⟩
  refine em_seq (N1 := St n) (em_for (js := [3]) (xs := (List.range n).map fun (i : Nat) => eI i) (sr_rng (ea_cons (ev_var rfl) ea_nil) (by omega)) St ⟨⟨_, _, _, _, _, _, _, rfl⟩, rfl⟩ ?_ fun ρ om h => by rw [List.length_map, List.length_range] at h; exact h) ?_
  · rintro i e ρ om hi ⟨⟨r3, r4, r5, r6, r7, r8, r9, rfl⟩, rfl⟩
    obtain ⟨hi1, rfl⟩ := rg_get hi
    refine ⟨by simp [slots], _, tg_name, ?_⟩
    let Sj : Nat → Rho → Om → Prop := fun k ρ om => (∃ r5 r6 r7 r8 r9, ρ = [some (.dat (matD m)), some (eI n), none, some (eI i), none, r5, r6, r7, r8, r9]) ∧ om = [(4, ((List.range k).map (C i)).map oi), (2, (List.range i).map fun i => rowD ((List.range n).map (C i)))]
    refine em_seq (N1 := Sj 0) (em_new (ds := []) (el_lst (ds := []) ea_nil (Nat.le_of_ble_eq_true rfl)) (by simp [slots]) (by show 4 < 10; decide) ⟨⟨_, _, _, _, _, rfl⟩, rfl⟩) ?_
    rintro ρ om ⟨⟨r5, r6, r7, r8, r9, rfl⟩, rfl⟩
    refine em_seq (N1 := Sj n) (em_for (js := [5]) (xs := (List.range n).map fun (i : Nat) => eI i) (sr_rng (ea_cons (ev_var rfl) ea_nil) (by omega)) Sj ⟨⟨_, _, _, _, _, rfl⟩, rfl⟩ ?_ fun ρ om h => by rw [List.length_map, List.length_range] at h; exact h) ?_
    · rintro j e ρ om hj ⟨⟨r5, r6, r7, r8, r9, rfl⟩, rfl⟩
      obtain ⟨hj1, rfl⟩ := rg_get hj
      refine ⟨by simp [slots], _, tg_name, ?_⟩
      have hln := zwRows_len (n := n) (b := i) (g := j) hn
      let om' : Om := [(4, ((List.range j).map (C i)).map oi), (2, (List.range i).map fun i => rowD ((List.range n).map (C i)))]
      refine em_seq (N1 := fun ρ om => (∃ r6 r8 r9, ρ = [some (.dat (matD m)), some (eI n), none, some (eI i), none, some (eI j), r6, some (.dat (.list ((zwRows n i j).map fun r => oi (zwSum m r)))), r8, r9]) ∧ om = om') (em_asg (El.ed (el_lc (js := [6]) (l := zwRows n i j) (enc := fun r => .dat (rowT r)) (fun r => oi (zwSum m r)) (sr_lstM (ev_call (ea_cons (ev_var rfl) (ea_cons (ev_var rfl) (ea_cons (ev_var rfl) ea_nil))) ⟨n, i, j, rfl, hn, rfl⟩)) (by omega) (by simp) fun r hr => ⟨_, tg_name, ev_call (ea_cons (ev_var rfl) (ea_cons (ev_var rfl) ea_nil)) ⟨n, m, r, rfl, sq, (zw_row hi1 hn hr).1, by have := (zw_row hi1 hn hr).2; omega, rfl⟩⟩)) (by simp [slots]) ⟨⟨_, _, _, rfl⟩, rfl⟩) ?_
      rintro ρ om ⟨⟨r6, r8, r9, rfl⟩, rfl⟩
      generalize hL : (zwRows n i j).map (zwSum m) = L
      have eL : ((zwRows n i j).map fun r => oi (zwSum m r)) = L.map oi := by rw [← hL, List.map_map]; rfl
      rw [eL]
      refine em_seq (N1 := fun ρ om => (∃ r6 r8, ρ = [some (.dat (matD m)), some (eI n), none, some (eI i), none, some (eI j), r6, some (.dat (.list (L.map oi))), r8, some (.dat (.list ((L.filterMap id).map .int)))]) ∧ om = om') (em_asg (El.ed (El.to (el_lcF (js := [8]) (l := L) (enc := fun o => eO o) (fun o => o.isSome) (fun o => oi o) (sr_lstM (ev_var rfl)) (by rw [← hL, List.length_map]; omega) (by simp) fun o ho => ⟨_, tg_name, Et.to (et_test (ev_notN (ev_var rfl))) (by cases o <;> rfl), fun _ => (ev_var rfl)⟩) (filter_some L))) (by simp [slots, om']) ⟨⟨_, _, rfl⟩, rfl⟩) ?_
      rintro ρ om ⟨⟨r6, r8, rfl⟩, rfl⟩
      refine em_append (k := 0) (d := oi (C i j)) rfl (ev_if (et_test (ev_neD (ev_var rfl) (El.ed (el_lst (ds := []) ea_nil (Nat.le_of_ble_eq_true rfl))) (shaped_ints _) rfl)) (fun z => Ev.to (ev_cb (ea_cons (ev_var rfl) ea_nil) (rc_min ?_)) ?_) fun z => Ev.to ev_non ?_) (by rw [List.length_map, List.length_map, List.length_range]; omega) ⟨⟨_, _, _, _, _, rfl⟩, ?_⟩
      · rw [eqv_nil] at z
        intro q
        rw [q] at z
        cases z
      · rw [eqv_nil] at z
        show eI _ = eO (minO _)
        rw [hL]
        unfold minO
        rw [if_neg (fun q => by rw [q] at z; cases z)]
        rfl
      · rw [eqv_nil] at z
        show eN = eO (minO _)
        rw [hL]
        unfold minO
        have : L.filterMap id = [] := by
          cases h : L.filterMap id with
          | nil => rfl
          | cons a r => rw [h] at z; cases z
        rw [if_pos this]
        rfl
      · show [(4, _ ++ [oi (C i j)]), _] = _
        rw [List.range_succ, List.map_append, List.map_append]
        rfl
    · rintro ρ om ⟨⟨r5, r6, r7, r8, r9, rfl⟩, rfl⟩
      refine em_post (N' := fun ρ om => (∃ r3 r4 r5 r6 r7 r8 r9, ρ = [some (.dat (matD m)), some (eI n), none, r3, r4, r5, r6, r7, r8, r9]) ∧ om = [(4, ((List.range n).map (C i)).map oi), (2, (List.range (i + 1)).map fun i => rowD ((List.range n).map (C i)))]) (em_appendT (k := 1) (es := ((List.range n).map (C i)).map oi) rfl (ev_tupleOf (.inl (ev_var rfl))) (flats_oi _) (by rw [List.length_map, List.length_range]; omega) ⟨⟨_, _, _, _, _, _, _, rfl⟩, ?_⟩) fun ρ om h => ?_
      · rw [List.range_succ, List.map_append]
        rfl
      · obtain ⟨h1, rfl⟩ := h
        exact ⟨_, _, _, rfl, h1, rfl⟩
  · rintro ρ om ⟨⟨r3, r4, r5, r6, r7, r8, r9, rfl⟩, rfl⟩
    refine em_ret (ev_tupleOf (.inl (ev_var rfl))) ?_
    rw [hz]
    show Ent.dat (.tuple _) = .dat (matD (tab n C))
    unfold matD tab
    rw [List.map_map]
    rfl
end
end Ek
end

section
set_option Elab.async false
set_option linter.all false
set_option maxRecDepth 100000
set_option maxHeartbeats 4000000
namespace Ek
open PySem PySem.Spec PyProof.Rows L2 K18
open Evl (Ex ex_rd ex_l ex_t fresh_back sz_of sz_lt)
def hasB (n : Nat) (u : Int) (m : Mat) (rd : List (Int × Int)) : Bool := (List.range n).all fun i => (List.range n).all fun j => keptB rd i j (ent m i j) u
theorem row_at {rd : List (Int × Int)} {i : Nat} (h : i ≤ rd.length) : atI (PyData.tuple [.int 0, .int 1] :: rd.map frD) (i : Int) = some (frD (rdAt rd i)) := by
  refine atI_nat ?_
  unfold rdAt
  cases i with
  | zero => rfl
  | succ i =>
    rw [if_neg (by omega), List.getElem?_cons_succ, List.getElem?_map, List.getElem?_eq_getElem (by omega), Nat.add_sub_cancel, List.getD_eq_getElem?_getD, List.getElem?_eq_getElem (by omega)]
    rfl
section
variable {P : Program} {w : World} {mg : Str → Option Value} {base : Heap} {G : Gd}
def R_z_has (es : List Ent) (y : Ent) : Prop := ∃ (n : Nat) (u : Int) (m : Mat) (rd : List (Int × Int)), es = [eI u, .dat (matD m), .dat (rdD rd)] ∧ Sq n m ∧ n ≤ 100 ∧ (0 < u ∧ u ≤ 64) ∧ Und rd ∧ rd.length + 1 = n ∧ y = eB (hasB n u m rd)
abbrev s__law_zw_has : Stmt := (topS 60)
abbrev N__law_zw_has : List Str := ["_law_unit", "_law_bounds", "_law_readings", "_law_row", "_law_i", "_law_line", "_law_j", "_law_one", "_law_a", "_law_b", "_law_c", "_law_d"]
theorem sc__law_zw_has : FnScope N__law_zw_has ["_law_unit", "_law_bounds", "_law_readings"] (defScope s__law_zw_has) := ⟨rfl, rfl, rfl, by decide +kernel, rfl, by decide +kernel, by decide +kernel⟩
theorem ok__law_zw_has {f : Addr} {fd : FuncData} (F : Fun G.K "_law_zw_has" "_law_zw_has" s__law_zw_has f fd) (B : Bi mg)   : FnOk P w G.K mg base CX0 1 f fd ["_law_unit", "_law_bounds", "_law_readings"] (spE G 3 R_z_has) := by
  refine F.ok sc__law_zw_has (fun vs H Q E h => h.1) (fun cdv A outer s H vs Q E hr h => ⟨_, (pss_cons (ps_set (i := 3) sc__law_zw_has.nd rfl (Or.inl rfl) (pe_op (Kv.op_catAK G.K) (pe_tup (pa_cons (pe_tup (pa_cons pe_int (pa_cons pe_int pa_nil))) pa_nil)) (pv 2)))
      (pss_cons (ps_for PassesOwn.never rfl (Kv.pi_enumK G.K (by rfl) B.enumerate (pa_cons (pv 1) pa_nil)) (Kv.pg_tupK G.K (n := 2) rfl (pgs_cons (pg_name (i := 4) sc__law_zw_has.nd rfl (Or.inl rfl)) (pgs_cons (pg_name (i := 5) sc__law_zw_has.nd rfl (Or.inl rfl)) pgs_nil))) (pss_one (ps_for PassesOwn.never rfl (Kv.pi_enumK G.K (by rfl) B.enumerate (pa_cons (pv 5) pa_nil)) (Kv.pg_tupK G.K (n := 2) rfl (pgs_cons (pg_name (i := 6) sc__law_zw_has.nd rfl (Or.inl rfl)) (pgs_cons (pg_name (i := 7) sc__law_zw_has.nd rfl (Or.inl rfl)) pgs_nil))) (pss_cons (ps_asg (pe_tup (pa_cons (pe_ix (Kv.ix_tupK G.K) (pv 3) (pv 4) (fun _ _ => rfl)) (pa_cons (pe_ix (Kv.ix_tupK G.K) (pv 3) (pv 6) (fun _ _ => rfl)) pa_nil))) (Kv.pg_tupK G.K (n := 2) rfl (pgs_cons (Kv.pg_tupK G.K (n := 2) rfl (pgs_cons (pg_name (i := 8) sc__law_zw_has.nd rfl (Or.inl rfl)) (pgs_cons (pg_name (i := 9) sc__law_zw_has.nd rfl (Or.inl rfl)) pgs_nil))) (pgs_cons (Kv.pg_tupK G.K (n := 2) rfl (pgs_cons (pg_name (i := 10) sc__law_zw_has.nd rfl (Or.inl rfl)) (pgs_cons (pg_name (i := 11) sc__law_zw_has.nd rfl (Or.inl rfl)) pgs_nil))) pgs_nil))))
      (pss_one (ps_if (PW.pt (pw_and (pt_cmpR op_notN (pv 7) pe_non (nomark _)) (pw_and1 (pt_cmpR op_gt (pe_op op_mul (pe_op op_sub (pe_op op_mul (pv 8) (pv 11)) (pe_op op_mul (pv 10) (pv 9))) (pv 0)) (pe_op op_mul (pe_op op_mul (pv 7) (pv 9)) (pv 11)) (nomark _))))) (pss_one (ps_ret pe_bl)) pss_nil))))))
      (pss_one (ps_ret pe_bl)))), ?_⟩)
  obtain ⟨_, S, es, y, dm, rl, hR, kk⟩ := h
  refine fn_run dm rl kk ?_
  clear kk rl dm
  obtain ⟨n, u, m, rd, rfl, sq, hn, hu, ud, hl, rfl⟩ := hR
  have hno : ∀ i j, i < n → j < n → keptB rd i j (ent m i j) u = false → hasB n u m rd = false := fun i j hi hj h => by
    cases q : hasB n u m rd with
    | false => rfl
    | true =>
      unfold hasB at q
      rw [List.all_eq_true] at q
      have q1 := q i (List.mem_range.mpr hi)
      rw [List.all_eq_true] at q1
      rw [q1 j (List.mem_range.mpr hj)] at h
      cases h
  let rw0 : PyData := .tuple (PyData.tuple [.int 0, .int 1] :: rd.map frD)
  let Ok : Nat → Nat → Prop := fun i j => keptB rd i j (ent m i j) u = true
  let Fr : Rho → Prop := fun ρ => ∃ r4 r5 r6 r7 r8 r9 r10 r11, ρ = [some (eI u), some (.dat (matD m)), some (.dat (rdD rd)), some (.dat rw0), r4, r5, r6, r7, r8, r9, r10, r11]
  refine em_seq (N1 := fun ρ om => Fr ρ ∧ om = []) (em_asg (ev_catT (ev_tup (ds := [.tuple [.int 0, .int 1]]) (ea_cons (ev_tup (ds := [.int 0, .int 1]) (ea_cons ev_int (ea_cons ev_int ea_nil)) (Nat.le_of_ble_eq_true rfl)) ea_nil) (Nat.le_of_ble_eq_true rfl)) (ev_var rfl) (by rw [List.length_map]; show 1 + rd.length ≤ 100000; omega)) (by simp [slots]) ⟨⟨_, _, _, _, _, _, _, _, rfl⟩, rfl⟩) ?_
  rintro ρ om ⟨⟨r4, r5, r6, r7, r8, r9, r10, r11, rfl⟩, rfl⟩
  refine em_seq (N1 := fun ρ om => (∀ i j, i < n → j < n → Ok i j) ∧ Fr ρ ∧ om = []) (em_for (js := [4, 5]) (xs := (List.range m.length).map fun (i : Nat) => .dat (.tuple [.int (i : Int), rowD (m.getD i [])])) (sr_enumM [] (ea_cons (ev_var rfl) ea_nil)) (fun k ρ om => (∀ i j, i < k → j < n → Ok i j) ∧ Fr ρ ∧ om = []) ⟨fun i j h => by omega, ⟨_, _, _, _, _, _, _, _, rfl⟩, rfl⟩ ?_ fun ρ om h => by rw [List.length_map, List.length_range, sq.len] at h; exact h) ?_
  · rintro i e ρ om hi ⟨ok, ⟨r4, r5, r6, r7, r8, r9, r10, r11, rfl⟩, rfl⟩
    obtain ⟨hi1, rfl⟩ := rg_get hi
    rw [sq.len] at hi1
    have hr := Sq.rowlen sq hi1
    refine ⟨by simp [slots], _, tg_2, ?_⟩
    refine em_for (js := [6, 7]) (xs := (List.range (m.getD i []).length).map fun (j : Nat) => .dat (.tuple [.int (j : Int), oi ((m.getD i []).getD j none)])) (sr_enumM none (ea_cons (ev_var rfl) ea_nil)) (fun k ρ om => (∀ j, j < k → Ok i j) ∧ (∃ r6 r7 r8 r9 r10 r11, ρ = [some (eI u), some (.dat (matD m)), some (.dat (rdD rd)), some (.dat rw0), some (eI i), some (.dat (rowD (m.getD i []))), r6, r7, r8, r9, r10, r11]) ∧ om = []) ⟨fun j h => by omega, ⟨_, _, _, _, _, _, rfl⟩, rfl⟩ ?_ fun ρ om h => ?_
    · rintro j e ρ om hj ⟨ok2, ⟨r6, r7, r8, r9, r10, r11, rfl⟩, rfl⟩
      obtain ⟨hj1, rfl⟩ := rg_get hj
      rw [hr] at hj1
      refine ⟨by simp [slots], _, tg_2, ?_⟩
      have ua := ud.at_ i
      have ub := ud.at_ j
      show Em _ _ [some (eI u), some (.dat (matD m)), some (.dat (rdD rd)), some (.dat rw0), some (eI i), some (.dat (rowD (m.getD i []))), some (eI j), some (eO (ent m i j)), r8, r9, r10, r11] [] _ _
      refine em_seq (N1 := fun ρ om => ρ = [some (eI u), some (.dat (matD m)), some (.dat (rdD rd)), some (.dat rw0), some (eI i), some (.dat (rowD (m.getD i []))), some (eI j), some (eO (ent m i j)), some (eI (rdAt rd i).1), some (eI (rdAt rd i).2), some (eI (rdAt rd j).1), some (eI (rdAt rd j).2)] ∧ om = [])
        (em_asgT (x := .dat (.tuple [frD (rdAt rd i), frD (rdAt rd j)])) (js := [8, 9] ++ ([10, 11] ++ [])) (ev_tup (ds := [frD (rdAt rd i), frD (rdAt rd j)]) (ea_cons (ev_ixT (ev_var rfl) (ev_var rfl) (row_at (by omega))) (ea_cons (ev_ixT (ev_var rfl) (ev_var rfl) (row_at (by omega))) ea_nil)) (Nat.le_of_ble_eq_true rfl)) (tg_tup (tgs_cons tg_2 (tgs_cons tg_2 tgs_nil))) (by simp [slots]) ⟨rfl, rfl⟩) ?_
      rintro ρ om ⟨rfl, rfl⟩
      refine em_if (b := !keptB rd i j (ent m i j) u) ?_ (fun z => em_ret ev_bl ?_) fun z => em_next ⟨fun j' hj' => ?_, ⟨_, _, _, _, _, _, rfl⟩, rfl⟩
      · cases h : ent m i j with
        | none => exact et_andF (et_test (ev_notNb (ev_var rfl)))
        | some x =>
          refine et_andT (et_test (ev_notNb (ev_var rfl))) (Et.to (et_test (ev_B0 (ev_I (ev_I0 (ev_I (ev_var rfl) (ev_var rfl) (mul_ok ub)) (ev_I (ev_var rfl) (ev_var rfl) (mul_ok ua))) (ev_var rfl) (mul_ok hu)) (ev_I (ev_I (ev_var rfl) (ev_var rfl) (mul_ok ua)) (ev_var rfl) (mul_ok ub)))) ?_)
          unfold keptB
          rw [← decide_not]
          exact decide_eq_decide.mpr Int.not_le.symm
      · rw [hno i j hi1 hj1 (by simpa using z)]
      · by_cases e : j' = j
        · rw [e]
          show keptB rd i j (ent m i j) u = true
          simpa using z
        · exact ok2 j' (by omega)
    · rw [List.length_map, List.length_range, hr] at h
      obtain ⟨h1, ⟨r6, r7, r8, r9, r10, r11, rfl⟩, rfl⟩ := h
      refine ⟨fun i' j' hi' hj' => ?_, ⟨_, _, _, _, _, _, _, _, rfl⟩, rfl⟩
      by_cases e : i' = i
      · rw [e]
        exact h1 j' hj'
      · exact ok i' j' (by omega) hj'
  · rintro ρ om ⟨ok, ⟨r4, r5, r6, r7, r8, r9, r10, r11, rfl⟩, rfl⟩
    refine em_ret ev_bl ?_
    have : hasB n u m rd = true := by
      unfold hasB
      rw [List.all_eq_true]
      intro i hi
      rw [List.all_eq_true]
      intro j hj
      exact ok i j (List.mem_range.mp hi) (List.mem_range.mp hj)
    rw [this]
end
end Ek
end

section
set_option Elab.async false
set_option linter.all false
set_option maxRecDepth 100000
set_option maxHeartbeats 4000000
namespace Ek
open PySem PySem.Spec PyProof.Rows L2 K18
open Evl (Ex ex_rd ex_l ex_t fresh_back sz_of sz_lt)
theorem zip_getD {α β : Type} {l : List α} {m : List β} {k : Nat} (d : α) (e : β) (h1 : k < l.length) (h2 : k < m.length) : (l.zip m).getD k (d, e) = (l.getD k d, m.getD k e) := by
  rw [List.getD_eq_getElem?_getD, List.getD_eq_getElem?_getD, List.getD_eq_getElem?_getD, List.getElem?_eq_getElem h1, List.getElem?_eq_getElem h2, (List.getElem?_zip_eq_some (z := (l[k], m[k]))).mpr ⟨List.getElem?_eq_getElem h1, List.getElem?_eq_getElem h2⟩]
  rfl
section
variable {P : Program} {w : World} {mg : Str → Option Value} {base : Heap} {G : Gd}
def R_z_within (es : List Ent) (y : Ent) : Prop := ∃ (n : Nat) (a b : Option Mat), es = [.dat (clD a), .dat (clD b)] ∧ (∀ m, a = some m → Sq n m) ∧ (∀ m, b = some m → Sq n m) ∧ y = eB (withinO n a b)
abbrev s__law_zw_within : Stmt := (topS 63)
abbrev N__law_zw_within : List Str := ["_law_one", "_law_other", "_law_left", "_law_right_here", "_law_here", "_law_there"]
theorem sc__law_zw_within : FnScope N__law_zw_within ["_law_one", "_law_other"] (defScope s__law_zw_within) := ⟨rfl, rfl, rfl, by decide +kernel, rfl, by decide +kernel, by decide +kernel⟩
theorem ok__law_zw_within {f : Addr} {fd : FuncData} (F : Fun G.K "_law_zw_within" "_law_zw_within" s__law_zw_within f fd) (B : Bi mg)   : FnOk P w G.K mg base CX0 1 f fd ["_law_one", "_law_other"] (spE G 2 R_z_within) := by
  refine F.ok sc__law_zw_within (fun vs H Q E h => h.1) (fun cdv A outer s H vs Q E hr h => ⟨_, (pss_cons (ps_if (PW.pt (pw_or (pt_cmpR op_isN (pv 0) pe_non (nomark _)) (pw_or1 (pt_cmpR op_isN (pv 1) pe_non (nomark _))))) (pss_one (ps_ret (pe_cmpR op_isN (pv 0) pe_non (nomark _)))) pss_nil)
      (pss_cons (ps_for PassesOwn.never rfl (Kv.pi_zipK G.K (by rfl) B.zip (pa_cons (pv 0) (pa_cons (pv 1) pa_nil))) (Kv.pg_tupK G.K (n := 2) rfl (pgs_cons (pg_name (i := 2) sc__law_zw_within.nd rfl (Or.inl rfl)) (pgs_cons (pg_name (i := 3) sc__law_zw_within.nd rfl (Or.inl rfl)) pgs_nil))) (pss_one (ps_for PassesOwn.never rfl (Kv.pi_zipK G.K (by rfl) B.zip (pa_cons (pv 2) (pa_cons (pv 3) pa_nil))) (Kv.pg_tupK G.K (n := 2) rfl (pgs_cons (pg_name (i := 4) sc__law_zw_within.nd rfl (Or.inl rfl)) (pgs_cons (pg_name (i := 5) sc__law_zw_within.nd rfl (Or.inl rfl)) pgs_nil))) (pss_one (ps_if (PW.pt (pw_and (pt_cmpR op_notN (pv 5) pe_non (nomark _)) (pw_and1 (PW.pt (pw_or (pt_cmpR op_isN (pv 4) pe_non (nomark _)) (pw_or1 (pt_cmpR op_gt (pv 4) (pv 5) (nomark _)))))))) (pss_one (ps_ret pe_bl)) pss_nil)))))
      (pss_one (ps_ret pe_bl)))), ?_⟩)
  obtain ⟨_, S, es, y, dm, rl, hR, kk⟩ := h
  refine fn_run dm rl kk ?_
  clear kk rl dm
  obtain ⟨n, a, b, rfl, ha, hb, rfl⟩ := hR
  cases a with
  | none => exact em_seq (N1 := fun _ _ => False) (em_ifT (et_orT (et_test (ev_isNb (ev_var rfl)))) (em_ret (ev_isNb (ev_var rfl)) rfl)) fun _ _ z => z.elim
  | some a =>
  cases b with
  | none => exact em_seq (N1 := fun _ _ => False) (em_ifT (et_orF (et_test (ev_isNb (ev_var rfl))) (et_test (ev_isNb (ev_var rfl)))) (em_ret (ev_isNb (ev_var rfl)) rfl)) fun _ _ z => z.elim
  | some b =>
  have sa := ha a rfl
  have sb := hb b rfl
  have hno : ∀ i j, i < n → j < n → leO (ent a i j) (ent b i j) = false → withinO n (some a) (some b) = false := fun i j hi hj h => by
    cases q : withinO n (some a) (some b) with
    | false => rfl
    | true =>
      rw [(le_iff _ _).mpr (within_iff.mp q i j hi hj)] at h
      cases h
  let Fr : Rho → Prop := fun ρ => ∃ r2 r3 r4 r5, ρ = [some (.dat (matD a)), some (.dat (matD b)), r2, r3, r4, r5]
  let Ok : Nat → Nat → Prop := fun i j => leO (ent a i j) (ent b i j) = true
  refine em_seq (N1 := fun ρ om => Fr ρ ∧ om = []) (em_gate (et_orF (et_test (ev_isNb (ev_var rfl))) (et_test (ev_isNb (ev_var rfl)))) ⟨⟨_, _, _, _, rfl⟩, rfl⟩) ?_
  rintro ρ om ⟨⟨r2, r3, r4, r5, rfl⟩, rfl⟩
  refine em_seq (N1 := fun ρ om => (∀ i j, i < n → j < n → Ok i j) ∧ Fr ρ ∧ om = []) (em_for (js := [2, 3]) (xs := (a.zip b).map fun p => .dat (.tuple [rowD p.1, rowD p.2])) (sr_zipM (ea_cons (ev_var rfl) (ea_cons (ev_var rfl) ea_nil))) (fun k ρ om => (∀ i j, i < k → j < n → Ok i j) ∧ Fr ρ ∧ om = []) ⟨fun i j h => by omega, ⟨_, _, _, _, rfl⟩, rfl⟩ ?_ fun ρ om h => by rw [List.length_map, List.length_zip, sa.len, sb.len, Nat.min_self] at h; exact h) ?_
  · rintro i e ρ om hi ⟨ok, ⟨r2, r3, r4, r5, rfl⟩, rfl⟩
    obtain ⟨hi1, rfl⟩ := mp_get ([], []) hi
    rw [List.length_zip, sa.len, sb.len, Nat.min_self] at hi1
    rw [zip_getD [] [] (by rw [sa.len]; exact hi1) (by rw [sb.len]; exact hi1)]
    have hra := Sq.rowlen sa hi1
    have hrb := Sq.rowlen sb hi1
    refine ⟨by simp [slots], _, tg_2, ?_⟩
    refine em_for (js := [4, 5]) (xs := ((a.getD i []).zip (b.getD i [])).map fun p => .dat (.tuple [oi p.1, oi p.2])) (sr_zipM (ea_cons (ev_var rfl) (ea_cons (ev_var rfl) ea_nil))) (fun k ρ om => (∀ j, j < k → Ok i j) ∧ (∃ r4 r5, ρ = [some (.dat (matD a)), some (.dat (matD b)), some (.dat (rowD (a.getD i []))), some (.dat (rowD (b.getD i []))), r4, r5]) ∧ om = []) ⟨fun j h => by omega, ⟨_, _, rfl⟩, rfl⟩ ?_ fun ρ om h => ?_
    · rintro j e ρ om hj ⟨ok2, ⟨r4, r5, rfl⟩, rfl⟩
      obtain ⟨hj1, rfl⟩ := mp_get (none, none) hj
      rw [List.length_zip, hra, hrb, Nat.min_self] at hj1
      rw [zip_getD none none (by rw [hra]; exact hj1) (by rw [hrb]; exact hj1)]
      refine ⟨by simp [slots], _, tg_2, ?_⟩
      show Em _ _ [some (.dat (matD a)), some (.dat (matD b)), some (.dat (rowD (a.getD i []))), some (.dat (rowD (b.getD i []))), some (eO (ent a i j)), some (eO (ent b i j))] [] _ _
      refine em_if (b := !leO (ent a i j) (ent b i j)) ?_ (fun z => em_ret ev_bl ?_) fun z => em_next ⟨fun j' hj' => ?_, ⟨_, _, rfl⟩, rfl⟩
      · cases hb : ent b i j with
        | none => exact Et.to (et_andF (et_test (ev_notNb (ev_var rfl)))) (by cases ent a i j <;> rfl)
        | some y =>
          cases ha : ent a i j with
          | none => exact et_andT (et_test (ev_notNb (ev_var rfl))) (et_orT (et_test (ev_isNb (ev_var rfl))))
          | some x =>
            refine et_andT (et_test (ev_notNb (ev_var rfl))) (et_orF (et_test (ev_isNb (ev_var rfl))) (Et.to (et_test (ev_B0 (ev_var rfl) (ev_var rfl))) ?_))
            show decide (y < x) = !decide (x ≤ y)
            rw [← decide_not]
            exact decide_eq_decide.mpr Int.not_le.symm
      · rw [hno i j hi1 hj1 (by simpa using z)]
      · by_cases e : j' = j
        · rw [e]
          show leO (ent a i j) (ent b i j) = true
          simpa using z
        · exact ok2 j' (by omega)
    · rw [List.length_map, List.length_zip, hra, hrb, Nat.min_self] at h
      obtain ⟨h1, ⟨r4, r5, rfl⟩, rfl⟩ := h
      refine ⟨fun i' j' hi' hj' => ?_, ⟨_, _, _, _, rfl⟩, rfl⟩
      by_cases e : i' = i
      · rw [e]
        exact h1 j' hj'
      · exact ok i' j' (by omega) hj'
  · rintro ρ om ⟨ok, ⟨r2, r3, r4, r5, rfl⟩, rfl⟩
    refine em_ret ev_bl ?_
    rw [within_iff.mpr fun i j hi hj => (le_iff _ _).mp (ok i j hi hj)]
def R_z_both (es : List Ent) (y : Ent) : Prop := ∃ (n : Nat) (a b : Mat), es = [.dat (matD a), .dat (matD b)] ∧ Sq n a ∧ Sq n b ∧ n ≤ 100 ∧ y = .dat (matD (both n a b))
abbrev s__law_both : Stmt := (topS 66)
abbrev N__law_both : List Str := ["_law_one", "_law_other", "_law_found", "_law_left", "_law_right_here", "_law_line", "_law_a", "_law_b"]
theorem sc__law_both : FnScope N__law_both ["_law_one", "_law_other"] (defScope s__law_both) := ⟨rfl, rfl, rfl, by decide +kernel, rfl, by decide +kernel, by decide +kernel⟩
theorem ok__law_both {f : Addr} {fd : FuncData} (F : Fun G.K "_law_both" "_law_both" s__law_both f fd) (B : Bi mg)   : FnOk P w G.K mg base CX0 1 f fd ["_law_one", "_law_other"] (spE G 2 R_z_both) := by
  refine F.ok sc__law_both (fun vs H Q E h => h.1) (fun cdv A outer s H vs Q E hr h => ⟨_, (pss_cons (ps_set (i := 2) sc__law_both.nd rfl (Or.inl rfl) (pe_lst pa_nil))
      (pss_cons (ps_for PassesOwn.never rfl (Kv.pi_zipK G.K (by rfl) B.zip (pa_cons (pv 0) (pa_cons (pv 1) pa_nil))) (Kv.pg_tupK G.K (n := 2) rfl (pgs_cons (pg_name (i := 3) sc__law_both.nd rfl (Or.inl rfl)) (pgs_cons (pg_name (i := 4) sc__law_both.nd rfl (Or.inl rfl)) pgs_nil))) (pss_cons (ps_set (i := 5) sc__law_both.nd rfl (Or.inl rfl) (pe_lst pa_nil))
      (pss_cons (ps_for PassesOwn.never rfl (Kv.pi_zipK G.K (by rfl) B.zip (pa_cons (pv 3) (pa_cons (pv 4) pa_nil))) (Kv.pg_tupK G.K (n := 2) rfl (pgs_cons (pg_name (i := 6) sc__law_both.nd rfl (Or.inl rfl)) (pgs_cons (pg_name (i := 7) sc__law_both.nd rfl (Or.inl rfl)) pgs_nil))) (pss_one (ps_expr (pe_bm PySem.F.plainAttrs_list PySem.F.slot_list_append PySem.F.type_list_append mt_append (pv 5) (pa_cons (pe_ifExp (pt_cmpR op_isN (pv 6) pe_non (nomark _)) (pv 7) (pe_ifExp (pt_cmpR op_isN (pv 7) pe_non (nomark _)) (pv 6) (pe_callB (call_min2 rfl) (by rfl) B.min (by decide +kernel) (pa_cons (pv 6) (pa_cons (pv 7) pa_nil))))) pa_nil)))))
      (pss_one (ps_expr (pe_bm PySem.F.plainAttrs_list PySem.F.slot_list_append PySem.F.type_list_append mt_append (pv 2) (pa_cons (Kv.pe_tupleOfK G.K (by rfl) B.tuple (pv 5)) pa_nil)))))))
      (pss_one (ps_ret (Kv.pe_tupleOfK G.K (by rfl) B.tuple (pv 2)))))), ?_⟩)
  obtain ⟨_, S, es, y, dm, rl, hR, kk⟩ := h
  refine fn_run dm rl kk ?_
  clear kk rl dm
  obtain ⟨n, a, b, rfl, sa, sb, hn, rfl⟩ := hR
  let C : Nat → Nat → OI := fun i j => lesserO (ent a i j) (ent b i j)
  let St : Nat → Rho → Om → Prop := fun k ρ om => (∃ r3 r4 r5 r6 r7, ρ = [some (.dat (matD a)), some (.dat (matD b)), none, r3, r4, r5, r6, r7]) ∧ om = [(2, (List.range k).map fun i => rowD ((List.range n).map (C i)))]
  refine em_seq (N1 := St 0) (em_new (ds := []) (el_lst (ds := []) ea_nil (Nat.le_of_ble_eq_true rfl)) (by simp [slots]) (by show 2 < 8; decide) ⟨⟨_, _, _, _, _, rfl⟩, rfl⟩) ?_
  rintro ρ om ⟨⟨r3, r4, r5, r6, r7, rfl⟩, rfl⟩
  refine em_seq (N1 := St n) (em_for (js := [3, 4]) (xs := (a.zip b).map fun p => .dat (.tuple [rowD p.1, rowD p.2])) (sr_zipM (ea_cons (ev_var rfl) (ea_cons (ev_var rfl) ea_nil))) St ⟨⟨_, _, _, _, _, rfl⟩, rfl⟩ ?_ fun ρ om h => by rw [List.length_map, List.length_zip, sa.len, sb.len, Nat.min_self] at h; exact h) ?_
  · rintro i e ρ om hi ⟨⟨r3, r4, r5, r6, r7, rfl⟩, rfl⟩
    obtain ⟨hi1, rfl⟩ := mp_get ([], []) hi
    rw [List.length_zip, sa.len, sb.len, Nat.min_self] at hi1
    rw [zip_getD [] [] (by rw [sa.len]; exact hi1) (by rw [sb.len]; exact hi1)]
    have hra := Sq.rowlen sa hi1
    have hrb := Sq.rowlen sb hi1
    refine ⟨by simp [slots], _, tg_2, ?_⟩
    let Sj : Nat → Rho → Om → Prop := fun k ρ om => (∃ r6 r7, ρ = [some (.dat (matD a)), some (.dat (matD b)), none, some (.dat (rowD (a.getD i []))), some (.dat (rowD (b.getD i []))), none, r6, r7]) ∧ om = [(5, ((List.range k).map (C i)).map oi), (2, (List.range i).map fun i => rowD ((List.range n).map (C i)))]
    refine em_seq (N1 := Sj 0) (em_new (ds := []) (el_lst (ds := []) ea_nil (Nat.le_of_ble_eq_true rfl)) (by simp [slots]) (by show 5 < 8; decide) ⟨⟨_, _, rfl⟩, rfl⟩) ?_
    rintro ρ om ⟨⟨r6, r7, rfl⟩, rfl⟩
    refine em_seq (N1 := Sj n) (em_for (js := [6, 7]) (xs := ((a.getD i []).zip (b.getD i [])).map fun p => .dat (.tuple [oi p.1, oi p.2])) (sr_zipM (ea_cons (ev_var rfl) (ea_cons (ev_var rfl) ea_nil))) Sj ⟨⟨_, _, rfl⟩, rfl⟩ ?_ fun ρ om h => by rw [List.length_map, List.length_zip, hra, hrb, Nat.min_self] at h; exact h) ?_
    · rintro j e ρ om hj ⟨⟨r6, r7, rfl⟩, rfl⟩
      obtain ⟨hj1, rfl⟩ := mp_get (none, none) hj
      rw [List.length_zip, hra, hrb, Nat.min_self] at hj1
      rw [zip_getD none none (by rw [hra]; exact hj1) (by rw [hrb]; exact hj1)]
      refine ⟨by simp [slots], _, tg_2, ?_⟩
      show Em _ _ [some (.dat (matD a)), some (.dat (matD b)), none, some (.dat (rowD (a.getD i []))), some (.dat (rowD (b.getD i []))), none, some (eO (ent a i j)), some (eO (ent b i j))] _ _ _
      refine em_append (k := 0) (d := oi (C i j)) rfl ?_ (by rw [List.length_map, List.length_map, List.length_range]; omega) ⟨⟨_, _, rfl⟩, ?_⟩
      · show Ev _ _ _ (eO (lesserO (ent a i j) (ent b i j)))
        cases ha : ent a i j with
        | none => exact ev_ifT (et_test (ev_isNb (ev_var rfl))) (ev_var rfl)
        | some x =>
          cases hb : ent b i j with
          | none => exact ev_ifF (et_test (ev_isNb (ev_var rfl))) (ev_ifT (et_test (ev_isNb (ev_var rfl))) (ev_var rfl))
          | some y => exact ev_ifF (et_test (ev_isNb (ev_var rfl))) (ev_ifF (et_test (ev_isNb (ev_var rfl))) (ev_cb (ea_cons (ev_var rfl) (ea_cons (ev_var rfl) ea_nil)) rc_min2))
      · show [(5, _ ++ [oi (C i j)]), _] = _
        rw [List.range_succ, List.map_append, List.map_append]
        rfl
    · rintro ρ om ⟨⟨r6, r7, rfl⟩, rfl⟩
      refine em_post (N' := fun ρ om => (∃ r3 r4 r5 r6 r7, ρ = [some (.dat (matD a)), some (.dat (matD b)), none, r3, r4, r5, r6, r7]) ∧ om = [(5, ((List.range n).map (C i)).map oi), (2, (List.range (i + 1)).map fun i => rowD ((List.range n).map (C i)))]) (em_appendT (k := 1) (es := ((List.range n).map (C i)).map oi) rfl (ev_tupleOf (.inl (ev_var rfl))) (flats_oi _) (by rw [List.length_map, List.length_range]; omega) ⟨⟨_, _, _, _, _, rfl⟩, ?_⟩) fun ρ om h => ?_
      · rw [List.range_succ, List.map_append]
        rfl
      · obtain ⟨h1, rfl⟩ := h
        exact ⟨_, _, _, rfl, h1, rfl⟩
  · rintro ρ om ⟨⟨r3, r4, r5, r6, r7, rfl⟩, rfl⟩
    refine em_ret (ev_tupleOf (.inl (ev_var rfl))) ?_
    show Ent.dat (.tuple _) = .dat (matD (tab n C))
    unfold matD tab
    rw [List.map_map]
    rfl
def R_z_times (es : List Ent) (y : Ent) : Prop := ∃ (n : Nat) (m : Mat) (t : Int), es = [.dat (matD m), eI t] ∧ Sq n m ∧ n ≤ 100 ∧ (0 < t ∧ t ≤ 64) ∧ y = .dat (matD (scale t m))
abbrev s__law_times : Stmt := (topS 67)
abbrev N__law_times : List Str := ["_law_bounds", "_law_times_here", "_law_found", "_law_line", "_law_one"]
theorem sc__law_times : FnScope N__law_times ["_law_bounds", "_law_times_here"] (defScope s__law_times) := ⟨rfl, rfl, rfl, by decide +kernel, rfl, by decide +kernel, by decide +kernel⟩
theorem ok__law_times {f : Addr} {fd : FuncData} (F : Fun G.K "_law_times" "_law_times" s__law_times f fd) (B : Bi mg)   : FnOk P w G.K mg base CX0 1 f fd ["_law_bounds", "_law_times_here"] (spE G 2 R_z_times) := by
  refine F.ok sc__law_times (fun vs H Q E h => h.1) (fun cdv A outer s H vs Q E hr h => ⟨_, (pss_cons (ps_set (i := 2) sc__law_times.nd rfl (Or.inl rfl) (pe_lst pa_nil))
      (pss_cons (ps_for PassesOwn.never rfl (Kv.pi_tupK G.K (pv 0)) (pg_name (i := 3) sc__law_times.nd rfl (Or.inl rfl)) (pss_one (ps_expr (pe_bm PySem.F.plainAttrs_list PySem.F.slot_list_append PySem.F.type_list_append mt_append (pv 2) (pa_cons (Kv.pe_tupleOfK G.K (by rfl) B.tuple (pe_lc rfl sc__law_times.nd (Kv.pi_tupK G.K (pv 3)) (blkOk_by (own := [("_law_one", 4)]) (N := N__law_times) (sc := (defScope s__law_times)) (by decide +kernel)) (fun _ _ _ _ _ => (pg_name (i := 4) sc__law_times.nd rfl (Or.inl rfl))) (fun _ _ _ _ _ => pts_nil) (fun _ _ _ _ _ => (pe_ifExp (pt_cmpR op_isN (pv 4) pe_non (nomark _)) pe_non (pe_op op_mul (pv 4) (pv 1)))))) pa_nil)))))
      (pss_one (ps_ret (Kv.pe_tupleOfK G.K (by rfl) B.tuple (pv 2)))))), ?_⟩)
  obtain ⟨_, S, es, y, dm, rl, hR, kk⟩ := h
  refine fn_run dm rl kk ?_
  clear kk rl dm
  obtain ⟨n, m, t, rfl, sq, hn, ht, rfl⟩ := hR
  let St : Nat → Rho → Om → Prop := fun k ρ om => (∃ r3 r4, ρ = [some (.dat (matD m)), some (eI t), none, r3, r4]) ∧ om = [(2, (m.take k).map fun r => rowD (r.map (scO t)))]
  refine em_seq (N1 := St 0) (em_new (ds := []) (el_lst (ds := []) ea_nil (Nat.le_of_ble_eq_true rfl)) (by simp [slots]) (by show 2 < 5; decide) ⟨⟨_, _, rfl⟩, rfl⟩) ?_
  rintro ρ om ⟨⟨r3, r4, rfl⟩, rfl⟩
  refine em_seq (N1 := St m.length) (em_for (js := [3]) (xs := m.map fun r => .dat (rowD r)) (sr_tupM (ev_var rfl)) St ⟨⟨_, _, rfl⟩, rfl⟩ ?_ fun ρ om h => by rw [List.length_map] at h; exact h) ?_
  · rintro i e ρ om hi ⟨⟨r3, r4, rfl⟩, rfl⟩
    obtain ⟨hi1, rfl⟩ := mp_get [] hi
    have hr := Sq.rowlen sq (i := i) (by rw [← sq.len]; exact hi1)
    have ht' := take_one [] hi1
    generalize m.getD i [] = r at hr ht'
    refine ⟨by simp [slots], _, tg_name, ?_⟩
    refine em_append (k := 0) (d := rowD (r.map (scO t))) rfl (Ev.to (ev_tupleOf (.inl (El.ed (el_lc (js := [4]) (l := r) (enc := fun o => eO o) (fun o => oi (scO t o)) (sr_tupM (ev_var rfl)) (by omega) (by simp) fun o ho => ⟨_, tg_name, ?_⟩)))) ?_) (by rw [List.length_map, List.length_take]; have := sq.len; omega) ⟨⟨_, _, rfl⟩, ?_⟩
    · cases o with
      | none => exact ev_ifT (et_test (ev_isNb (ev_var rfl))) ev_non
      | some x => exact ev_ifF (et_test (ev_isNb (ev_var rfl))) (ev_I (ev_var rfl) (ev_var rfl) (mul_ok ht))
    · show Ent.dat (.tuple _) = .dat (.tuple _)
      rw [List.map_map]
      rfl
    · show [(2, _ ++ [rowD (r.map (scO t))])] = _
      rw [ht', List.map_append]
      rfl
  · rintro ρ om ⟨⟨r3, r4, rfl⟩, rfl⟩
    refine em_ret (ev_tupleOf (.inl (ev_var rfl))) ?_
    rw [List.take_length]
    unfold matD scale
    rw [List.map_map]
    rfl
def R_z_readings (es : List Ent) (y : Ent) : Prop := ∃ (l : List (Int × Int)), es = [.dat (rdD l), eI l.length] ∧ (∀ p ∈ l, 0 ≤ p.1 ∧ 0 < p.2 ∧ Nat.gcd p.1.natAbs p.2.natAbs = 1) ∧ y = eB true
abbrev s__law_zw_are_readings : Stmt := (topS 64)
abbrev N__law_zw_are_readings : List Str := ["_law_value", "_law_clocks", "_law_one"]
theorem sc__law_zw_are_readings : FnScope N__law_zw_are_readings ["_law_value", "_law_clocks"] (defScope s__law_zw_are_readings) := ⟨rfl, rfl, rfl, by decide +kernel, rfl, by decide +kernel, by decide +kernel⟩
theorem ok__law_zw_are_readings {f : Addr} {fd : FuncData} (F : Fun G.K "_law_zw_are_readings" "_law_zw_are_readings" s__law_zw_are_readings f fd) (B : Bi mg)  (h__law_zw_shared : Has P w G.K mg base "_law_zw_shared" 1 ["_law_one", "_law_other"] (spE G 2 R_z_shared)) : FnOk P w G.K mg base CX0 2 f fd ["_law_value", "_law_clocks"] (spE G 2 R_z_readings) := by
  refine F.ok sc__law_zw_are_readings (fun vs H Q E h => h.1) (fun cdv A outer s H vs Q E hr h => ⟨_, (pss_cons (ps_if (PW.pt (pw_or (pt_not (pt_val (pe_callB (Kv.call_isiK G.K) (by rfl) B.isinstance (by decide +kernel) (pa_cons (pv 0) (pa_cons (pe_bltn (v := .ty "tuple") (u := .type "tuple") (by rfl) B.tuple (by decide +kernel) rfl) pa_nil))))) (pw_or1 (pt_cmpR op_ne (pe_callB (Kv.call_lenK G.K) (by rfl) B.len (by decide +kernel) (pa_cons (pv 0) pa_nil)) (pv 1) (nomark _))))) (pss_one (ps_ret pe_bl)) pss_nil)
      (pss_cons (ps_for PassesOwn.never rfl (Kv.pi_tupK G.K (pv 0)) (pg_name (i := 2) sc__law_zw_are_readings.nd rfl (Or.inl rfl)) (pss_one (ps_if (PW.pt (pw_or (pt_not (pt_val (pe_callB (Kv.call_isiK G.K) (by rfl) B.isinstance (by decide +kernel) (pa_cons (pv 2) (pa_cons (pe_bltn (v := .ty "tuple") (u := .type "tuple") (by rfl) B.tuple (by decide +kernel) rfl) pa_nil))))) (pw_or (pt_cmpR op_ne (pe_callB (Kv.call_lenK G.K) (by rfl) B.len (by decide +kernel) (pa_cons (pv 2) pa_nil)) pe_int (nomark _)) (pw_or (pt_cmpR op_lt (pe_ix (Kv.ix_tupK G.K) (pv 2) pe_int (fun _ _ => rfl)) pe_int (nomark _)) (pw_or (pt_cmpR op_lt (pe_ix (Kv.ix_tupK G.K) (pv 2) pe_int (fun _ _ => rfl)) pe_int (nomark _)) (pw_or1 (pt_cmpR op_ne (pe_fn h__law_zw_shared hr (by decide) (pa_cons (pe_ix (Kv.ix_tupK G.K) (pv 2) pe_int (fun _ _ => rfl)) (pa_cons (pe_ix (Kv.ix_tupK G.K) (pv 2) pe_int (fun _ _ => rfl)) pa_nil))) pe_int (nomark _)))))))) (pss_one (ps_ret pe_bl)) pss_nil)))
      (pss_one (ps_ret pe_bl)))), ?_⟩)
  obtain ⟨_, S, es, y, dm, rl, hR, kk⟩ := h
  refine fn_run dm rl kk ?_
  clear kk rl dm
  obtain ⟨l, rfl, hs, rfl⟩ := hR
  let St : Nat → Rho → Om → Prop := fun k ρ om => (∃ r2, ρ = [some (.dat (rdD l)), some (eI l.length), r2]) ∧ om = []
  refine em_seq (N1 := St 0) (em_gate (et_orF (et_notT (et_test (ev_isiT (ev_var rfl)))) (Et.to (et_test (ev_neI (ev_cb (ea_cons (ev_var rfl) ea_nil) rc_lenT) (ev_var rfl))) ?_)) ⟨⟨_, rfl⟩, rfl⟩) ?_
  · rw [List.length_map]
    simp
  rintro ρ om ⟨⟨r2, rfl⟩, rfl⟩
  refine em_seq (N1 := St 0) (em_for (js := [2]) (xs := l.map fun p => .dat (frD p)) (sr_tupM (ev_var rfl)) St ⟨⟨_, rfl⟩, rfl⟩ ?_ fun ρ om h => h) ?_
  · rintro i e ρ om hi ⟨⟨r2, rfl⟩, rfl⟩
    obtain ⟨hi1, rfl⟩ := mp_get (0, 1) hi
    have hm : l.getD i (0, 1) ∈ l := by
      rw [List.getD_eq_getElem?_getD, List.getElem?_eq_getElem hi1]
      exact List.getElem_mem hi1
    generalize l.getD i (0, 1) = p at hm
    obtain ⟨a, b⟩ := p
    obtain ⟨h1, h2, h3⟩ := hs _ hm
    have ea : ((a.natAbs : Nat) : Int) = a := by have : 0 ≤ a := h1; omega
    have eb : ((b.natAbs : Nat) : Int) = b := by have : 0 < b := h2; omega
    refine ⟨by simp [slots], _, tg_name, em_gate (et_orF (et_notT (et_test (ev_isiT (ev_var rfl)))) (et_orF (Et.to (et_test (ev_neI (ev_cb (ea_cons (ev_var rfl) ea_nil) rc_lenT) ev_int)) rfl) (et_orF (Et.to (et_test (ev_B0 (ev_ixT (ev_var rfl) ev_int rfl) ev_int)) ?_) (et_orF (Et.to (et_test (ev_B0 (ev_ixT (ev_var rfl) ev_int rfl) ev_int)) ?_) (Et.to (et_test (ev_neI (ev_call (ea_cons (Ev.to (ev_ixT (ev_var rfl) ev_int rfl) (congrArg eI ea.symm)) (ea_cons (Ev.to (ev_ixT (ev_var rfl) ev_int rfl) (congrArg eI eb.symm)) ea_nil)) ⟨_, _, rfl, rfl⟩) ev_int)) ?_))))) ⟨⟨_, rfl⟩, rfl⟩⟩
    · refine decide_eq_false ?_
      show ¬ b < 1
      have : 0 < b := h2
      omega
    · exact decide_eq_false (Int.not_lt.mpr h1)
    · rw [show Nat.gcd a.natAbs b.natAbs = 1 from h3]
      rfl
  · rintro ρ om ⟨⟨r2, rfl⟩, rfl⟩
    exact em_ret ev_bl rfl
def R_z_outside (es : List Ent) (y : Ent) : Prop := ∃ (n : Nat) (u : Int) (a b : Mat) (told : Ent) (due : Bool), es = [eI u, .dat (matD a), .dat (matD b), told, eB due] ∧ Sq n a ∧ Sq n b ∧ n ≤ 100 ∧ (0 < u ∧ u ≤ 64) ∧
  ((told = eN ∧ due = true) ∨ ∃ rd : List (Int × Int), told = .dat (rdD rd) ∧ due = false ∧ rd.length + 1 = n ∧ (∀ p ∈ rd, 0 ≤ p.1 ∧ (0 < p.2 ∧ p.2 ≤ 64) ∧ Nat.gcd p.1.natAbs p.2.natAbs = 1) ∧ hasB n u a rd = true ∧ hasB n u b rd = false) ∧ y = eB true
abbrev s__law_outside_right : Stmt := (topS 68)
abbrev N__law_outside_right : List Str := ["_law_unit", "_law_one", "_law_other", "_law_told", "_law_is_due"]
theorem sc__law_outside_right : FnScope N__law_outside_right ["_law_unit", "_law_one", "_law_other", "_law_told", "_law_is_due"] (defScope s__law_outside_right) := ⟨rfl, rfl, rfl, by decide +kernel, rfl, by decide +kernel, by decide +kernel⟩
theorem ok__law_outside_right {f : Addr} {fd : FuncData} (F : Fun G.K "_law_outside_right" "_law_outside_right" s__law_outside_right f fd) (B : Bi mg)  (h__law_zw_are_readings : Has P w G.K mg base "_law_zw_are_readings" 2 ["_law_value", "_law_clocks"] (spE G 2 R_z_readings)) (h__law_zw_has : Has P w G.K mg base "_law_zw_has" 1 ["_law_unit", "_law_bounds", "_law_readings"] (spE G 3 R_z_has)) : FnOk P w G.K mg base CX0 3 f fd ["_law_unit", "_law_one", "_law_other", "_law_told", "_law_is_due"] (spE G 5 R_z_outside) := by
  refine F.ok sc__law_outside_right (fun vs H Q E h => h.1) (fun cdv A outer s H vs Q E hr h => ⟨_, (pss_cons (ps_if (pt_cmpR op_ne (pe_cmpR op_isN (pv 3) pe_non (nomark _)) (pv 4) (nomark _)) (pss_one (ps_ret pe_bl)) pss_nil)
      (pss_cons (ps_if (pt_cmpR op_isN (pv 3) pe_non (nomark _)) (pss_one (ps_ret pe_bl)) pss_nil)
      (pss_one (ps_ret (pe_and (pe_fn h__law_zw_are_readings hr (by decide) (pa_cons (pv 3) (pa_cons (pe_op op_sub (pe_callB (Kv.call_lenK G.K) (by rfl) B.len (by decide +kernel) (pa_cons (pv 1) pa_nil)) pe_int) pa_nil))) (pe_and (pe_fn h__law_zw_has hr (by decide) (pa_cons (pv 0) (pa_cons (pv 1) (pa_cons (pv 3) pa_nil)))) (pe_one (pe_not (pe_fn h__law_zw_has hr (by decide) (pa_cons (pv 0) (pa_cons (pv 2) (pa_cons (pv 3) pa_nil)))))))))))), ?_⟩)
  obtain ⟨_, S, es, y, dm, rl, hR, kk⟩ := h
  refine fn_run dm rl kk ?_
  clear kk rl dm
  obtain ⟨n, u, a, b, told, due, rfl, sa, sb, hn, hu, h, rfl⟩ := hR
  rcases h with ⟨rfl, rfl⟩ | ⟨rd, rfl, rfl, hl, hs, h1, h2⟩
  · refine em_seq (N1 := fun ρ om => ρ = [some (eI u), some (.dat (matD a)), some (.dat (matD b)), some eN, some (eB true)] ∧ om = []) (em_gate (et_test (ev_neB (i := true) (j := true) (ev_isNb (ev_var rfl)) (ev_var rfl))) ⟨rfl, rfl⟩) ?_
    rintro ρ om ⟨rfl, rfl⟩
    exact em_seq (N1 := fun _ _ => False) (em_ifT (et_test (ev_isNb (ev_var rfl))) (em_ret ev_bl rfl)) fun _ _ z => z.elim
  · refine em_seq (N1 := fun ρ om => ρ = [some (eI u), some (.dat (matD a)), some (.dat (matD b)), some (.dat (rdD rd)), some (eB false)] ∧ om = []) (em_gate (et_test (ev_neB (i := false) (j := false) (ev_isNb (ev_var rfl)) (ev_var rfl))) ⟨rfl, rfl⟩) ?_
    rintro ρ om ⟨rfl, rfl⟩
    refine em_seq (N1 := fun ρ om => ρ = [some (eI u), some (.dat (matD a)), some (.dat (matD b)), some (.dat (rdD rd)), some (eB false)] ∧ om = []) (em_gate (et_test (ev_isNb (ev_var rfl))) ⟨rfl, rfl⟩) ?_
    rintro ρ om ⟨rfl, rfl⟩
    have ud : Und rd := fun p hp => ⟨(hs p hp).2.1.1, (hs p hp).2.1.2⟩
    have el : ((a.map rowD).length : Int) - 1 = (rd.length : Int) := by rw [List.length_map, sa.len]; omega
    exact em_ret (ev_andT (ev_call (ea_cons (ev_var rfl) (ea_cons (Ev.to (ev_I0 (ev_cb (ea_cons (ev_var rfl) ea_nil) rc_lenT) ev_int) (congrArg eI el)) ea_nil)) ⟨rd, rfl, fun p hp => ⟨(hs p hp).1, (hs p hp).2.1.1, (hs p hp).2.2⟩, rfl⟩)
      (ev_andT (ev_call (ea_cons (ev_var rfl) (ea_cons (ev_var rfl) (ea_cons (ev_var rfl) ea_nil))) ⟨n, u, a, rd, rfl, sa, hn, hu, ud, hl, by rw [h1]⟩) (ev_notV (ev_call (ea_cons (ev_var rfl) (ea_cons (ev_var rfl) (ea_cons (ev_var rfl) ea_nil))) ⟨n, u, b, rd, rfl, sb, hn, hu, ud, hl, by rw [h2]⟩)))) rfl
end
end Ek
end

section
set_option Elab.async false
set_option linter.all false
set_option maxRecDepth 100000
set_option maxHeartbeats 4000000
namespace Ek
open PySem PySem.Spec PyProof.Rows L2 K18
open Evl (Ex ex_rd ex_l ex_t fresh_back sz_of sz_lt)
theorem slt_vw {S : List Addr} {H : Hp} {a C dx : Addr} {vs : List (Option V)} (h : SlX.Slt H a C dx vs) (h1 : a ∉ S) (h2 : dx ∉ S) : SlX.Slt (vw S H) a C dx vs := by
  rcases h with ⟨k1, k2⟩ | ⟨k1, k2⟩
  · exact .inl ⟨by rw [vw_out h1]; exact k1, k2⟩
  · exact .inr ⟨by rw [vw_out h1]; exact k1, by rw [vw_out h2]; exact k2⟩
theorem vw_slH {S : List Addr} {H : Hp} {a C dx : Addr} {vs : List (Option V)} : vw (a :: dx :: S) (SlX.slH H a C dx vs) = vw (a :: dx :: S) H := by
  unfold SlX.slH
  rw [vw_hid (List.mem_cons_self), vw_hid (List.mem_cons_of_mem _ List.mem_cons_self)]
theorem ex_slH {S : List Addr} {H : Hp} {a C dx : Addr} {vs : List (Option V)} : Ex (vw (a :: dx :: S) H) (vw S (SlX.slH H a C dx vs)) := by
  have := vw_sub (S := a :: dx :: S) (T := S) (H := SlX.slH H a C dx vs) fun b hb => List.mem_cons_of_mem _ (List.mem_cons_of_mem _ hb)
  rw [vw_slH] at this
  exact this
section
variable {P : Program} {w : World} {mg : Str → Option Value} {base : Heap} {G : Gd}
def R_kb (es : List Ent) (y : Ent) : Prop := ∃ (m : Mat), es = [.dat (matD m)] ∧ y = .known m
abbrev s_KnownBounds_init : Stmt := (inClass (topS 37) 1)
abbrev N_KnownBounds_init : List Str := ["self", "rows"]
theorem sc_KnownBounds_init : FnScope N_KnownBounds_init ["self", "rows"] (defScope s_KnownBounds_init) := ⟨rfl, rfl, rfl, by decide +kernel, rfl, by decide +kernel, by decide +kernel⟩
theorem ok_KnownBounds_init {f : Addr} {fd : FuncData} (F : Fun G.K "__init__" "KnownBounds.__init__" s_KnownBounds_init f fd) (B : Bi mg) (Z : Zo G mg)  : FnOk P w G.K mg base CX0 1 f fd ["self", "rows"] (spI G G.B 1 R_kb) := by
  refine F.ok sc_KnownBounds_init (fun vs H Q E h => h.1) (fun cdv A outer s H vs Q E hr h => ⟨_, (pss_one (Kv.ps_slK G.K (pv 0) (pv 1))), ?_⟩)
  obtain ⟨_, x, dx, ws, S, es, y, rfl, ne, hx, hdx, nx, ndx, dm, rl, ⟨m, rfl, rfl⟩, kk⟩ := h
  obtain ⟨v, rfl, r⟩ := repL1 rl
  obtain ⟨p, hp⟩ := Z.r0
  exact ⟨v, rfl, .ref x, rfl, x, G.B, dx, p, [], 0, rfl, .inl ⟨hx, rfl⟩, Z.b, hp, kk _ (fun a o h1 h2 h => by rw [SlX.slH_ne h1 h2]; exact h) ⟨x, dx, v, rfl, slt_vw (SlX.slH_slt ne) nx ndx, dp_mono ex_slH _ _ r⟩⟩
def R_zi (es : List Ent) (y : Ent) : Prop := ∃ (n u : Nat) (m : Mat) (b : Ent), es = [eI n, eI u, b] ∧ (1 ≤ n ∧ n ≤ 3) ∧ (1 ≤ u ∧ u ≤ 64) ∧ Sq (n + 1) m ∧ (b = .known m ∨ (b = .dat (matD m) ∧ Short m)) ∧ y = .zone n u m
abbrev s_Zone_init : Stmt := (inClass (topS 39) 1)
abbrev N_Zone_init : List Str := ["self", "clocks", "unit", "bounds", "rows"]
theorem sc_Zone_init : FnScope N_Zone_init ["self", "clocks", "unit", "bounds"] (defScope s_Zone_init) := ⟨rfl, rfl, rfl, by decide +kernel, rfl, by decide +kernel, by decide +kernel⟩
theorem ok_Zone_init {f : Addr} {fd : FuncData} (F : Fun G.K "__init__" "Zone.__init__" s_Zone_init f fd) (B : Bi mg) (Z : Zo G mg) (h_told_bounds : Has P w G.K mg base "told_bounds" 5 ["clocks", "unit", "bounds"] (spE G 3 R_told_bounds)) (h_closed_form : Has P w G.K mg base "closed_form" 4 ["bounds"] (spE G 1 R_closed_form)) : FnOk P w G.K mg base CX0 6 f fd ["self", "clocks", "unit", "bounds"] (spI G G.Z 3 R_zi) := by
  refine F.ok sc_Zone_init (fun vs H Q E h => h.1) (fun cdv A outer s H vs Q E hr h => ⟨_, (pss_cons (ps_set (i := 4) sc_Zone_init.nd rfl (Or.inl rfl) (pe_ifExp (pt_val (pe_callB ((Kv.call_isiK G.K).or (call_isiSlK G.K (.ref G.B))) (by rfl) B.isinstance (by decide +kernel) (pa_cons (pv 3) (pa_cons (pe_glob (v := .ref G.B) (u := .ref G.B) (by rfl) Z.gb rfl) pa_nil)))) (Kv.pe_slK G.K (pv 3)) (pe_fn h_told_bounds hr (by decide) (pa_cons (pv 1) (pa_cons (pv 2) (pa_cons (pv 3) pa_nil))))))
      (pss_cons (ps_asg (pe_tup (pa_cons (pv 1) (pa_cons (pv 2) (pa_cons (pv 4) pa_nil)))) (Kv.pg_tupK G.K (n := 3) rfl (pgs_cons (pg_slotK G.K (pv 0)) (pgs_cons (pg_slotK G.K (pv 0)) (pgs_cons (pg_slotK G.K (pv 0)) pgs_nil)))))
      (pss_one (Kv.ps_slK G.K (pv 0) (pe_fn h_closed_form hr (by decide) (pa_cons (pv 4) pa_nil)))))), ?_⟩)
  obtain ⟨_, x, dx, ws, S, es, y, rfl, ne, hx, hdx, nx, ndx, dm, rl, ⟨n, u, m, b, rfl, hn, hu, sq, hb, rfl⟩, kk⟩ := h
  cases rl with
  | cons r1 rl =>
  cases rl with
  | cons r2 rl =>
  obtain ⟨vb, rfl, r3⟩ := repL1 rl
  cases dp_int r1
  cases dp_int r2
  have dm' : Dom (x :: dx :: S) H := fun a ha => by
    rcases List.mem_cons.mp ha with rfl | ha
    · rw [hx]
      exact fun z => nomatch z
    · rcases List.mem_cons.mp ha with rfl | ha
      · exact hdx
      · exact dm a ha
  have E0' : Env { G with dd := none } (x :: dx :: S) (L2.start N_Zone_init [.ref x, .int n, .int u, vb]) H [none, some (eI n), some (eI u), some b, none] := ⟨dm', rfl, fun i e hi => by
    match i with
    | 0 => cases hi
    | 1 => cases hi; exact ⟨_, rfl, .int _⟩
    | 2 => cases hi; exact ⟨_, rfl, .int _⟩
    | 3 => cases hi; exact ⟨_, rfl, r3⟩
    | 4 => cases hi
    | i + 5 => cases hi⟩
  have te : ∀ {ta tb tc : TE} {tt : TT}, Et { G with dd := none } tt [none, some (eI n), some (eI u), some b, none] (match b with | .known _ => true | _ => false) → (b = .known m → Ed { G with dd := none } ta [none, some (eI n), some (eI u), some b, none] (matD m)) → (b = .dat (matD m) → Ed { G with dd := none } tb [none, some (eI n), some (eI u), some b, none] (matD m)) → Ed { G with dd := none } (tIf tt ta tb) [none, some (eI n), some (eI u), some b, none] (matD m) := fun h1 h2 h3 => by
    rcases hb with rfl | ⟨rfl, _⟩
    · exact ev_ifT h1 (h2 rfl)
    · exact ev_ifF h1 (h3 rfl)
  refine te (tc := tVar 0) (et_test ?_) (fun e => ?_) (fun e => ?_) _ _ _ E0' _ fun v H1 e1 r4 => ?_
  · have Z' : Zo { G with dd := none } mg := ⟨Z.c, Z.b, Z.s0, Z.s1, Z.s2, Z.s3, Z.r0, Z.iz, Z.ib, Z.gz, Z.gb, Z.kzz, Z.kbb, Z.ktb, Z.nf⟩
    rcases hb with rfl | ⟨rfl, _⟩
    · exact ev_isiK Z' (ev_var rfl)
    · exact ev_isiKt Z' (ds := m.map rowD) (ev_var rfl)
  · have Z' : Zo { G with dd := none } mg := ⟨Z.c, Z.b, Z.s0, Z.s1, Z.s2, Z.s3, Z.r0, Z.iz, Z.ib, Z.gz, Z.gb, Z.kzz, Z.kbb, Z.ktb, Z.nf⟩
    subst e
    exact ev_rows Z' (ev_var rfl)
  · subst e
    rcases hb with z | ⟨_, hs⟩
    · cases z
    · exact ev_call (ea_cons (ev_var rfl) (ea_cons (ev_var rfl) (ea_cons (ev_var rfl) ea_nil))) ⟨n, u, m, rfl, hn, hu, sq, hs, rfl⟩
  obtain ⟨p0, hp0⟩ := Z.s0
  obtain ⟨p1, hp1⟩ := Z.s1
  obtain ⟨p2, hp2⟩ := Z.s2
  obtain ⟨p3, hp3⟩ := Z.s3
  have hx1 : H1 x = some (.ins G.Z dx []) := e1 _ _ hx
  refine ⟨_, rfl, _, rfl, _, rfl, (by show 3 ≤ sizeLine; decide), fun T hT => ⟨T, _, rfl, .inl (.inl upd_same), rfl, _, _, rfl, ?_⟩⟩
  have xT : x ≠ T := ne_of_none hx1 hT
  have eT : Ex H1 (upd H1 T (.tup [.int n, .int u, v])) := Ex.new hT
  refine ⟨.ref x, rfl, x, G.Z, dx, p0, [], 0, rfl, .inl ⟨eT _ _ hx1, rfl⟩, Z.c, hp0, _, _, rfl, ?_⟩
  refine ⟨.ref x, rfl, x, G.Z, dx, p3, _, 3, rfl, SlX.slH_slt ne, Z.c, hp3, _, _, rfl, ?_⟩
  refine ⟨.ref x, rfl, x, G.Z, dx, p2, _, 2, rfl, SlX.slH_slt ne, Z.c, hp2, rfl, ?_⟩
  rw [SlX.slH_twice ne, SlX.slH_twice ne]
  have hpv : SlX.putS 2 v (SlX.putS 3 (.int u) (SlX.putS 0 (.int n) [])) = [some (.int n), none, some v, some (.int u)] := rfl
  rw [hpv]
  have E1 : Env { G with dd := none } (x :: dx :: S) ((L2.start N_Zone_init [.ref x, .int n, .int u, vb]).set 4 (some v)) (SlX.slH (upd H1 T (.tup [.int n, .int u, v])) x G.Z dx [some (.int n), none, some v, some (.int u)]) ([none, some (eI n), some (eI u), some b, none].set 4 (some (.dat (matD m)))) := by
    refine ((E0'.mono e1).set 4 (e := .dat (matD m)) r4).view ?_ ?_
    · intro a ha
      by_cases ea : a = x
      · subst ea
        unfold SlX.slH
        rw [upd_same]
        exact fun z => nomatch z
      · by_cases ed : a = dx
        · subst ed
          unfold SlX.slH
          rw [upd_ne ea, upd_same]
          exact fun z => nomatch z
        · rw [SlX.slH_ne ea ed]
          exact (dm'.mono (e1.trans eT)) a ha
    · rw [vw_slH]
      exact vw_mono eT
  show tCall (spE G 1 R_closed_form) [] E0 (tCons (tVar 4) tNil) _ _ _
  have hcl : Ed { G with dd := none } (tCall (spE G 1 R_closed_form) [] E0 (tCons (tVar 4) tNil)) ([none, some (eI n), some (eI u), some b, none].set 4 (some (.dat (matD m)))) (clD (closedForm m)) := ev_call (ea_cons (ev_var rfl) ea_nil) ⟨n + 1, m, rfl, sq, by omega, rfl⟩
  refine hcl _ _ _ E1 _ fun vc H6 e6 r6 => ?_
  have slt6 : SlX.Slt H6 x G.Z dx [some (.int n), none, some v, some (.int u)] := slt_mono e6 (SlX.slH_slt ne)
  refine ⟨.ref x, rfl, x, G.Z, dx, p1, _, 1, rfl, slt6, Z.c, hp1, kk _ (fun a o h1 h2 h => ?_) ⟨x, dx, vc, v, rfl, slt_vw (SlX.slH_slt ne) nx ndx, dp_mono ex_slH _ _ r6, dp_mono ?_ _ _ r4⟩⟩
  · rw [SlX.slH_ne h1 h2]
    refine e6 _ _ ?_
    rw [SlX.slH_ne h1 h2]
    exact eT _ _ (e1 _ _ h)
  · refine Ex.trans ?_ ex_slH
    refine Ex.trans ?_ (vw_mono e6)
    rw [vw_slH]
    exact vw_mono eT
end
end Ek
end

section
set_option Elab.async false
set_option linter.all false
set_option maxRecDepth 100000
set_option maxHeartbeats 4000000
namespace Ek
open PySem PySem.Spec PyProof.Rows L2 K18
open Evl (Ex ex_rd ex_l ex_t fresh_back sz_of sz_lt)
structure WZ (n u : Nat) (m : Mat) : Prop where
  n1 : 1 ≤ n
  n3 : n ≤ 3
  u1 : 1 ≤ u
  u64 : u ≤ 64
  sq : Sq (n + 1) m
theorem Zo.nod {G : Gd} {mg : Str → Option Value} (Z : Zo G mg) : Zo { G with dd := none } mg := ⟨Z.c, Z.b, Z.s0, Z.s1, Z.s2, Z.s3, Z.r0, Z.iz, Z.ib, Z.gz, Z.gb, Z.kzz, Z.kbb, Z.ktb, Z.nf⟩
theorem smd_2 (a b : Int) : SeqAt.shaped (.tuple [.int a, .int b]) = true := rfl
section
variable {P : Program} {w : World} {mg : Str → Option Value} {base : Heap} {G : Gd}
def R_clocks (es : List Ent) (y : Ent) : Prop := ∃ c u m, es = [.zone c u m] ∧ y = eI c
abbrev s_Zone_clocks : Stmt := (inClass (topS 39) 2)
abbrev N_Zone_clocks : List Str := ["self"]
theorem sc_Zone_clocks : FnScope N_Zone_clocks ["self"] (defScope s_Zone_clocks) := ⟨rfl, rfl, rfl, by decide +kernel, rfl, by decide +kernel, by decide +kernel⟩
theorem ok_Zone_clocks {f : Addr} {fd : FuncData} (F : Fun G.K "clocks" "Zone.clocks" s_Zone_clocks f fd) (B : Bi mg) (Z : Zo G mg)  : FnOk P w G.K mg base CX0 1 f fd ["self"] (spE G 1 R_clocks) := by
  refine F.ok sc_Zone_clocks (fun vs H Q E h => h.1) (fun cdv A outer s H vs Q E hr h => ⟨_, (pss_one (ps_ret (Kv.pe_slK G.K (pv 0)))), ?_⟩)
  obtain ⟨_, S, es, y, dm, rl, hR, kk⟩ := h
  refine fn_run dm rl kk ?_
  clear kk rl dm
  obtain ⟨c, u, m, rfl, rfl⟩ := hR
  exact em_ret (ev_clocks Z.nod (ev_var rfl)) rfl
def R_unit (es : List Ent) (y : Ent) : Prop := ∃ c u m, es = [.zone c u m] ∧ y = eI u
abbrev s_Zone_unit : Stmt := (inClass (topS 39) 3)
abbrev N_Zone_unit : List Str := ["self"]
theorem sc_Zone_unit : FnScope N_Zone_unit ["self"] (defScope s_Zone_unit) := ⟨rfl, rfl, rfl, by decide +kernel, rfl, by decide +kernel, by decide +kernel⟩
theorem ok_Zone_unit {f : Addr} {fd : FuncData} (F : Fun G.K "unit" "Zone.unit" s_Zone_unit f fd) (B : Bi mg) (Z : Zo G mg)  : FnOk P w G.K mg base CX0 1 f fd ["self"] (spE G 1 R_unit) := by
  refine F.ok sc_Zone_unit (fun vs H Q E h => h.1) (fun cdv A outer s H vs Q E hr h => ⟨_, (pss_one (ps_ret (Kv.pe_slK G.K (pv 0)))), ?_⟩)
  obtain ⟨_, S, es, y, dm, rl, hR, kk⟩ := h
  refine fn_run dm rl kk ?_
  clear kk rl dm
  obtain ⟨c, u, m, rfl, rfl⟩ := hR
  exact em_ret (ev_unit Z.nod (ev_var rfl)) rfl
def R_bnds (es : List Ent) (y : Ent) : Prop := ∃ c u m, es = [.zone c u m] ∧ y = .dat (clD (closedForm m))
abbrev s_Zone_bounds : Stmt := (inClass (topS 39) 5)
abbrev N_Zone_bounds : List Str := ["self"]
theorem sc_Zone_bounds : FnScope N_Zone_bounds ["self"] (defScope s_Zone_bounds) := ⟨rfl, rfl, rfl, by decide +kernel, rfl, by decide +kernel, by decide +kernel⟩
theorem ok_Zone_bounds {f : Addr} {fd : FuncData} (F : Fun G.K "bounds" "Zone.bounds" s_Zone_bounds f fd) (B : Bi mg) (Z : Zo G mg)  : FnOk P w G.K mg base CX0 1 f fd ["self"] (spE G 1 R_bnds) := by
  refine F.ok sc_Zone_bounds (fun vs H Q E h => h.1) (fun cdv A outer s H vs Q E hr h => ⟨_, (pss_one (ps_ret (Kv.pe_slK G.K (pv 0)))), ?_⟩)
  obtain ⟨_, S, es, y, dm, rl, hR, kk⟩ := h
  refine fn_run dm rl kk ?_
  clear kk rl dm
  obtain ⟨c, u, m, rfl, rfl⟩ := hR
  exact em_ret (ev_closed Z.nod (ev_var rfl)) rfl
def R_is_empty (es : List Ent) (y : Ent) : Prop := ∃ c u m, es = [.zone c u m] ∧ y = eB (closedForm m).isNone
abbrev s_Zone_is_empty : Stmt := (inClass (topS 39) 6)
abbrev N_Zone_is_empty : List Str := ["self"]
theorem sc_Zone_is_empty : FnScope N_Zone_is_empty ["self"] (defScope s_Zone_is_empty) := ⟨rfl, rfl, rfl, by decide +kernel, rfl, by decide +kernel, by decide +kernel⟩
theorem ok_Zone_is_empty {f : Addr} {fd : FuncData} (F : Fun G.K "is_empty" "Zone.is_empty" s_Zone_is_empty f fd) (B : Bi mg) (Z : Zo G mg)  : FnOk P w G.K mg base CX0 1 f fd ["self"] (spE G 1 R_is_empty) := by
  refine F.ok sc_Zone_is_empty (fun vs H Q E h => h.1) (fun cdv A outer s H vs Q E hr h => ⟨_, (pss_one (ps_ret (pe_cmpR op_isN (Kv.pe_slK G.K (pv 0)) pe_non (nomark _)))), ?_⟩)
  obtain ⟨_, S, es, y, dm, rl, hR, kk⟩ := h
  refine fn_run dm rl kk ?_
  clear kk rl dm
  obtain ⟨c, u, m, rfl, rfl⟩ := hR
  exact em_ret (ev_isNb (ev_closed Z.nod (ev_var rfl)) (by cases closedForm m <;> rfl)) rfl
def R_require_zone (es : List Ent) (y : Ent) : Prop := ∃ c u m, es = [.zone c u m] ∧ y = eN
abbrev s_require_zone : Stmt := (topS 43)
abbrev N_require_zone : List Str := ["value"]
theorem sc_require_zone : FnScope N_require_zone ["value"] (defScope s_require_zone) := ⟨rfl, rfl, rfl, by decide +kernel, rfl, by decide +kernel, by decide +kernel⟩
theorem ok_require_zone {f : Addr} {fd : FuncData} (F : Fun G.K "require_zone" "require_zone" s_require_zone f fd) (B : Bi mg) (Z : Zo G mg)  : FnOk P w G.K mg base CX0 1 f fd ["value"] (spE G 1 R_require_zone) := by
  refine F.ok sc_require_zone (fun vs H Q E h => h.1) (fun cdv A outer s H vs Q E hr h => ⟨_, (pss_one (ps_if (pt_not (pt_val (pe_callB (call_isiSlK G.K (.ref G.Z)) (by rfl) B.isinstance (by decide +kernel) (pa_cons (pv 0) (pa_cons (pe_glob (v := .ref G.Z) (u := .ref G.Z) (by rfl) Z.gz rfl) pa_nil))))) (pss_one ps_never) pss_nil)), ?_⟩)
  obtain ⟨_, S, es, y, dm, rl, hR, kk⟩ := h
  refine fn_run dm rl kk ?_
  clear kk rl dm
  obtain ⟨c, u, m, rfl, rfl⟩ := hR
  exact em_gate (et_notT (et_test (ev_isiZ Z.nod (ev_var rfl)))) rfl
theorem eqv_2 (a b : Int) : PyData.eqv (.tuple [.int a, .int b]) (.tuple [.int a, .int b]) = true := (eqv_iff _ _ rfl rfl).mpr rfl
def R_require_like (es : List Ent) (y : Ent) : Prop := ∃ c u m m', es = [.zone c u m, .zone c u m'] ∧ y = eN
abbrev s_require_like : Stmt := (topS 44)
abbrev N_require_like : List Str := ["zone", "value"]
theorem sc_require_like : FnScope N_require_like ["zone", "value"] (defScope s_require_like) := ⟨rfl, rfl, rfl, by decide +kernel, rfl, by decide +kernel, by decide +kernel⟩
theorem ok_require_like {f : Addr} {fd : FuncData} (F : Fun G.K "require_like" "require_like" s_require_like f fd) (B : Bi mg) (Z : Zo G mg) (h_require_zone : Has P w G.K mg base "require_zone" 1 ["value"] (spE G 1 R_require_zone)) : FnOk P w G.K mg base CX0 2 f fd ["zone", "value"] (spE G 2 R_require_like) := by
  refine F.ok sc_require_like (fun vs H Q E h => h.1) (fun cdv A outer s H vs Q E hr h => ⟨_, (pss_cons (ps_expr (pe_fn h_require_zone hr (by decide) (pa_cons (pv 1) pa_nil)))
      (pss_one (ps_if (pt_cmpR (Kv.op_neDK G.K hr.units) (pe_tup (pa_cons (Kv.pe_slK G.K (pv 1)) (pa_cons (Kv.pe_slK G.K (pv 1)) pa_nil))) (pe_tup (pa_cons (Kv.pe_slK G.K (pv 0)) (pa_cons (Kv.pe_slK G.K (pv 0)) pa_nil))) (nomark _)) (pss_one ps_never) pss_nil))), ?_⟩)
  obtain ⟨_, S, es, y, dm, rl, hR, kk⟩ := h
  refine fn_run dm rl kk ?_
  clear kk rl dm
  obtain ⟨c, u, m, m', rfl, rfl⟩ := hR
  refine em_seq (N1 := fun ρ om => ρ = [some (.zone c u m), some (.zone c u m')] ∧ om = []) (em_drop (ev_call (ea_cons (ev_var rfl) ea_nil) ⟨c, u, m', rfl, rfl⟩) ⟨rfl, rfl⟩) ?_
  rintro ρ om ⟨rfl, rfl⟩
  refine em_gate (Et.to (et_test (ev_neD (ev_tup (ds := [.int c, .int u]) (ea_cons (ev_clocks Z.nod (ev_var rfl)) (ea_cons (ev_unit Z.nod (ev_var rfl)) ea_nil)) (Nat.le_of_ble_eq_true rfl)) (ev_tup (ds := [.int c, .int u]) (ea_cons (ev_clocks Z.nod (ev_var rfl)) (ea_cons (ev_unit Z.nod (ev_var rfl)) ea_nil)) (Nat.le_of_ble_eq_true rfl)) (smd_2 _ _) (smd_2 _ _))) ?_) rfl
  rw [eqv_2]
  rfl
def R_require_point (es : List Ent) (y : Ent) : Prop := ∃ c u m k, es = [.zone c u m] ∧ closedForm m = some k ∧ y = eN
abbrev s_require_point : Stmt := (topS 45)
abbrev N_require_point : List Str := ["zone"]
theorem sc_require_point : FnScope N_require_point ["zone"] (defScope s_require_point) := ⟨rfl, rfl, rfl, by decide +kernel, rfl, by decide +kernel, by decide +kernel⟩
theorem ok_require_point {f : Addr} {fd : FuncData} (F : Fun G.K "require_point" "require_point" s_require_point f fd) (B : Bi mg) (Z : Zo G mg)  : FnOk P w G.K mg base CX0 1 f fd ["zone"] (spE G 1 R_require_point) := by
  refine F.ok sc_require_point (fun vs H Q E h => h.1) (fun cdv A outer s H vs Q E hr h => ⟨_, (pss_one (ps_if (pt_cmpR op_isN (Kv.pe_slK G.K (pv 0)) pe_non (nomark _)) (pss_one ps_never) pss_nil)), ?_⟩)
  obtain ⟨_, S, es, y, dm, rl, hR, kk⟩ := h
  refine fn_run dm rl kk ?_
  clear kk rl dm
  obtain ⟨c, u, m, k, rfl, hk, rfl⟩ := hR
  exact em_gate (et_test (ev_isNb (ev_closed Z.nod (ev_var rfl)) (by rw [hk]; rfl))) rfl
theorem row_some {n : Nat} {m c : Mat} (hm : Sq n m) (e : closedForm m = some c) : ∀ k, k < n → ∃ x, ent c 0 k = some x := fun k hk => let ⟨x, hx, _⟩ := row0 hm e hk; ⟨x, hx⟩
def R_point_with (es : List Ent) (y : Ent) : Prop := ∃ (n u : Nat) (m c f : Mat) (i j : Nat) (k : Int), es = [.zone n u m, eI i, eI j, eI k] ∧ WZ n u m ∧ closedForm m = some c ∧ i < n + 1 ∧ j < n + 1 ∧ closedForm (withBound c i j k) = some f ∧ y = .dat (rdD (rdOf (n + 1) u (leastP f)))
abbrev s_point_with : Stmt := (topS 41)
abbrev N_point_with : List Str := ["zone", "first", "last", "number"]
theorem sc_point_with : FnScope N_point_with ["zone", "first", "last", "number"] (defScope s_point_with) := ⟨rfl, rfl, rfl, by decide +kernel, rfl, by decide +kernel, by decide +kernel⟩
theorem ok_point_with {f : Addr} {fd : FuncData} (F : Fun G.K "point_with" "point_with" s_point_with f fd) (B : Bi mg) (Z : Zo G mg) (h_with_bound : Has P w G.K mg base "with_bound" 2 ["bounds", "first", "last", "number"] (spE G 4 R_with_bound)) (h_closed_form : Has P w G.K mg base "closed_form" 4 ["bounds"] (spE G 1 R_closed_form)) (h_least_of : Has P w G.K mg base "least_of" 3 ["closed", "unit"] (spE G 2 R_least_of)) : FnOk P w G.K mg base CX0 5 f fd ["zone", "first", "last", "number"] (spE G 4 R_point_with) := by
  refine F.ok sc_point_with (fun vs H Q E h => h.1) (fun cdv A outer s H vs Q E hr h => ⟨_, (pss_one (ps_ret (pe_fn h_least_of hr (by decide) (pa_cons (pe_fn h_closed_form hr (by decide) (pa_cons (pe_fn h_with_bound hr (by decide) (pa_cons (Kv.pe_slK G.K (pv 0)) (pa_cons (pv 1) (pa_cons (pv 2) (pa_cons (pv 3) pa_nil))))) pa_nil)) (pa_cons (Kv.pe_slK G.K (pv 0)) pa_nil))))), ?_⟩)
  obtain ⟨_, S, es, y, dm, rl, hR, kk⟩ := h
  refine fn_run dm rl kk ?_
  clear kk rl dm
  obtain ⟨n, u, m, c, f', i, j, k, rfl, wz, hc, hi, hj, hf, rfl⟩ := hR
  have sqc := (closedForm_some wz.sq hc).1
  have sqw := sq_withBound sqc i j k
  have sqf := (closedForm_some sqw hf).1
  have n3 := wz.n3
  have hcl : Ed { G with dd := none } (SlX.tSl G.K (tVar 0) "own_closed") (shw (startR N_point_with [.zone n u m, eI i, eI j, eI k]) []) (matD c) := Ev.to (ev_closed Z.nod (ev_var rfl)) (by rw [hc]; rfl)
  refine em_ret (ev_call (ea_cons (Ev.to (ev_call (ea_cons (ev_call (ea_cons hcl (ea_cons (ev_var rfl) (ea_cons (ev_var rfl) (ea_cons (ev_var rfl) ea_nil)))) ⟨n + 1, c, i, j, k, rfl, sqc, by omega, hi, hj, rfl⟩) ea_nil) ⟨n + 1, _, rfl, sqw, by omega, rfl⟩) (by rw [hf]; rfl)) (ea_cons (ev_unit Z.nod (ev_var rfl)) ea_nil)) ⟨n + 1, u, f', rfl, sqf, by omega, ⟨wz.u1, wz.u64⟩, row_some sqw hf, rfl⟩) rfl
def R_least (es : List Ent) (y : Ent) : Prop := ∃ (n u : Nat) (m c : Mat), es = [.zone n u m] ∧ WZ n u m ∧ closedForm m = some c ∧ y = .dat (rdD (rdOf (n + 1) u (leastP c)))
abbrev s_Zone_least : Stmt := (inClass (topS 39) 8)
abbrev N_Zone_least : List Str := ["self"]
theorem sc_Zone_least : FnScope N_Zone_least ["self"] (defScope s_Zone_least) := ⟨rfl, rfl, rfl, by decide +kernel, rfl, by decide +kernel, by decide +kernel⟩
theorem ok_Zone_least {f : Addr} {fd : FuncData} (F : Fun G.K "least" "Zone.least" s_Zone_least f fd) (B : Bi mg) (Z : Zo G mg) (h_require_point : Has P w G.K mg base "require_point" 1 ["zone"] (spE G 1 R_require_point)) (h_least_of : Has P w G.K mg base "least_of" 3 ["closed", "unit"] (spE G 2 R_least_of)) : FnOk P w G.K mg base CX0 4 f fd ["self"] (spE G 1 R_least) := by
  refine F.ok sc_Zone_least (fun vs H Q E h => h.1) (fun cdv A outer s H vs Q E hr h => ⟨_, (pss_cons (ps_expr (pe_fn h_require_point hr (by decide) (pa_cons (pv 0) pa_nil)))
      (pss_one (ps_ret (pe_fn h_least_of hr (by decide) (pa_cons (Kv.pe_slK G.K (pv 0)) (pa_cons (Kv.pe_slK G.K (pv 0)) pa_nil)))))), ?_⟩)
  obtain ⟨_, S, es, y, dm, rl, hR, kk⟩ := h
  refine fn_run dm rl kk ?_
  clear kk rl dm
  obtain ⟨n, u, m, c, rfl, wz, hc, rfl⟩ := hR
  have n3 := wz.n3
  refine em_seq (N1 := fun ρ om => ρ = [some (.zone n u m)] ∧ om = []) (em_drop (ev_call (ea_cons (ev_var rfl) ea_nil) ⟨n, u, m, c, rfl, hc, rfl⟩) ⟨rfl, rfl⟩) ?_
  rintro ρ om ⟨rfl, rfl⟩
  exact em_ret (ev_call (ea_cons (Ev.to (ev_closed Z.nod (ev_var rfl)) (by rw [hc]; rfl)) (ea_cons (ev_unit Z.nod (ev_var rfl)) ea_nil)) ⟨n + 1, u, c, rfl, (closedForm_some wz.sq hc).1, by omega, ⟨wz.u1, wz.u64⟩, row_some wz.sq hc, rfl⟩) rfl
def R_edge (es : List Ent) (y : Ent) : Prop := ∃ (n u : Nat) (m c f : Mat) (i j : Nat) (x : Int), es = [.zone n u m, eI i, eI j] ∧ WZ n u m ∧ closedForm m = some c ∧ i < n + 1 ∧ j < n + 1 ∧ ent c i j = some x ∧ closedForm (withBound c j i (-x)) = some f ∧ y = .dat (rdD (rdOf (n + 1) u (leastP f)))
abbrev s_Zone_edge : Stmt := (inClass (topS 39) 9)
abbrev N_Zone_edge : List Str := ["self", "first", "last", "number"]
theorem sc_Zone_edge : FnScope N_Zone_edge ["self", "first", "last"] (defScope s_Zone_edge) := ⟨rfl, rfl, rfl, by decide +kernel, rfl, by decide +kernel, by decide +kernel⟩
theorem ok_Zone_edge {f : Addr} {fd : FuncData} (F : Fun G.K "edge" "Zone.edge" s_Zone_edge f fd) (B : Bi mg) (Z : Zo G mg) (h_require_from : Has P w G.K mg base "require_from" 3 ["value", "least", "most"] (spE G 3 R_require_from)) (h_require_point : Has P w G.K mg base "require_point" 1 ["zone"] (spE G 1 R_require_point)) (h_point_with : Has P w G.K mg base "point_with" 5 ["zone", "first", "last", "number"] (spE G 4 R_point_with)) : FnOk P w G.K mg base CX0 6 f fd ["self", "first", "last"] (spE G 3 R_edge) := by
  refine F.ok sc_Zone_edge (fun vs H Q E h => h.1) (fun cdv A outer s H vs Q E hr h => ⟨_, (pss_cons (ps_expr (pe_fn h_require_from hr (by decide) (pa_cons (pv 1) (pa_cons pe_int (pa_cons (Kv.pe_slK G.K (pv 0)) pa_nil)))))
      (pss_cons (ps_expr (pe_fn h_require_from hr (by decide) (pa_cons (pv 2) (pa_cons pe_int (pa_cons (Kv.pe_slK G.K (pv 0)) pa_nil)))))
      (pss_cons (ps_expr (pe_fn h_require_point hr (by decide) (pa_cons (pv 0) pa_nil)))
      (pss_cons (ps_set (i := 3) sc_Zone_edge.nd rfl (Or.inl rfl) (pe_ix (Kv.ix_tupK G.K) (pe_ix (Kv.ix_tupK G.K) (Kv.pe_slK G.K (pv 0)) (pv 1) (fun _ _ => rfl)) (pv 2) (fun _ _ => rfl)))
      (pss_one (ps_ret (pe_ifExp (pt_cmpR op_isN (pv 3) pe_non (nomark _)) pe_non (pe_fn h_point_with hr (by decide) (pa_cons (pv 0) (pa_cons (pv 2) (pa_cons (pv 1) (pa_cons (pe_un un_neg (pv 3)) pa_nil)))))))))))), ?_⟩)
  obtain ⟨_, S, es, y, dm, rl, hR, kk⟩ := h
  refine fn_run dm rl kk ?_
  clear kk rl dm
  obtain ⟨n, u, m, c, f', i, j, x, rfl, wz, hc, hi, hj, hx, hf, rfl⟩ := hR
  have sqc := (closedForm_some wz.sq hc).1
  refine em_seq (N1 := fun ρ om => ρ = [some (.zone n u m), some (eI i), some (eI j), none] ∧ om = []) (em_drop (ev_call (ea_cons (ev_var rfl) (ea_cons ev_int (ea_cons (ev_clocks Z.nod (ev_var rfl)) ea_nil))) ⟨i, 0, n, rfl, by omega, by omega, rfl⟩) ⟨rfl, rfl⟩) ?_
  rintro ρ om ⟨rfl, rfl⟩
  refine em_seq (N1 := fun ρ om => ρ = [some (.zone n u m), some (eI i), some (eI j), none] ∧ om = []) (em_drop (ev_call (ea_cons (ev_var rfl) (ea_cons ev_int (ea_cons (ev_clocks Z.nod (ev_var rfl)) ea_nil))) ⟨j, 0, n, rfl, by omega, by omega, rfl⟩) ⟨rfl, rfl⟩) ?_
  rintro ρ om ⟨rfl, rfl⟩
  refine em_seq (N1 := fun ρ om => ρ = [some (.zone n u m), some (eI i), some (eI j), none] ∧ om = []) (em_drop (ev_call (ea_cons (ev_var rfl) ea_nil) ⟨n, u, m, c, rfl, hc, rfl⟩) ⟨rfl, rfl⟩) ?_
  rintro ρ om ⟨rfl, rfl⟩
  have hcl : Ed { G with dd := none } (SlX.tSl G.K (tVar 0) "own_closed") [some (.zone n u m), some (eI i), some (eI j), none] (matD c) := Ev.to (ev_closed Z.nod (ev_var rfl)) (by rw [hc]; rfl)
  refine em_seq (N1 := fun ρ om => ρ = [some (.zone n u m), some (eI i), some (eI j), some (eI x)] ∧ om = []) (em_asg (Ev.to (ev_ixT (ev_ixT hcl (ev_var rfl) (at_mat sqc hi)) (ev_var rfl) (at_ent sqc hi hj)) (congrArg eO hx)) (by simp [slots]) ⟨rfl, rfl⟩) ?_
  rintro ρ om ⟨rfl, rfl⟩
  exact em_ret (ev_ifF (et_test (ev_isNb (ev_var rfl))) (ev_call (ea_cons (ev_var rfl) (ea_cons (ev_var rfl) (ea_cons (ev_var rfl) (ea_cons (ev_neg (ev_var rfl)) ea_nil)))) ⟨n, u, m, c, f', j, i, -x, rfl, wz, hc, hj, hi, hf, rfl⟩)) rfl
def prD : Option (Nat × Nat) → PyData
  | none => .none
  | some p => .tuple [.int (p.1 : Int), .int (p.2 : Int)]
theorem prs_nil (l : List (Nat × Nat)) : PyData.eqv (.list (l.map fun p => prD (some p))) (.list []) = l.isEmpty := by
  cases l <;> rfl
theorem prs_shaped (l : List (Nat × Nat)) : SeqAt.shaped (.list (l.map fun p => prD (some p))) = true := (smd_lst (k := 1) fun x hx => by
  obtain ⟨p, _, rfl⟩ := List.mem_map.mp hx
  refine smd_tup fun y hy => ?_
  rcases List.mem_cons.mp hy with rfl | hy
  · exact smd_int _
  · rcases List.mem_cons.mp hy with rfl | hy
    · exact smd_int _
    · cases hy).shaped
def R_greater_at (es : List Ent) (y : Ent) : Prop := ∃ (n u : Nat) (m m' : Mat), es = [.zone n u m, .zone n u m'] ∧ WZ n u m ∧ WZ n u m' ∧ y = .dat (prD (greaterAt (n + 1) (closedForm m) (closedForm m')))
abbrev s_greater_at : Stmt := (topS 42)
abbrev N_greater_at : List Str := ["zone", "other", "places", "mine", "more", "one", "far", "pairs"]
theorem sc_greater_at : FnScope N_greater_at ["zone", "other"] (defScope s_greater_at) := ⟨rfl, rfl, rfl, by decide +kernel, rfl, by decide +kernel, by decide +kernel⟩
theorem ok_greater_at {f : Addr} {fd : FuncData} (F : Fun G.K "greater_at" "greater_at" s_greater_at f fd) (B : Bi mg) (Z : Zo G mg) (h_is_at_most : Has P w G.K mg base "is_at_most" 1 ["one", "other"] (spE G 2 R_is_at_most)) : FnOk P w G.K mg base CX0 2 f fd ["zone", "other"] (spE G 2 R_greater_at) := by
  refine F.ok sc_greater_at (fun vs H Q E h => h.1) (fun cdv A outer s H vs Q E hr h => ⟨_, (pss_cons (ps_if (pt_cmpR op_isN (Kv.pe_slK G.K (pv 0)) pe_non (nomark _)) (pss_one (ps_ret pe_non)) pss_nil)
      (pss_cons (ps_if (pt_cmpR op_isN (Kv.pe_slK G.K (pv 1)) pe_non (nomark _)) (pss_one (ps_ret (pe_tup (pa_cons pe_int (pa_cons pe_int pa_nil))))) pss_nil)
      (pss_cons (ps_set (i := 2) sc_greater_at.nd rfl (Or.inr rfl) (pe_listRg rfl (by rfl) B.list (prg_1 (by rfl) B.range (pe_op op_add (Kv.pe_slK G.K (pv 0)) pe_int))))
      (pss_cons (ps_asg (pe_tup (pa_cons (Kv.pe_slK G.K (pv 0)) (pa_cons (Kv.pe_slK G.K (pv 1)) pa_nil))) (Kv.pg_tupK G.K (n := 2) rfl (pgs_cons (pg_name (i := 3) sc_greater_at.nd rfl (Or.inr rfl)) (pgs_cons (pg_name (i := 4) sc_greater_at.nd rfl (Or.inr rfl)) pgs_nil))))
      (pss_cons (ps_setLc2 (i := 7) rfl sc_greater_at.nd rfl rfl (sw_true rfl rfl rfl (by decide +kernel)) (Kv.pi_listK G.K (pv 2)) (blkOk_by (own := [("one", 5), ("far", 6)]) (N := N_greater_at) (sc := (defScope s_greater_at)) (by decide +kernel)) (vs1 := [6]) (by decide) (fun _ _ _ _ _ => (pg_name (i := 5) sc_greater_at.nd rfl (Or.inl rfl))) (fun _ _ _ _ _ => pts_nil) (fun _ _ _ _ _ => (Kv.pi_listK G.K (pv 2))) (fun _ _ _ _ _ => (pg_name (i := 6) sc_greater_at.nd rfl (Or.inl rfl))) (fun _ _ _ _ _ => (pts_one (pt_not (pt_val (pe_fn h_is_at_most hr (by decide) (pa_cons (pe_ix (Kv.ix_tupK G.K) (pe_ix (Kv.ix_tupK G.K) (pv 3) (pv 5) (fun _ _ => rfl)) (pv 6) (fun _ _ => rfl)) (pa_cons (pe_ix (Kv.ix_tupK G.K) (pe_ix (Kv.ix_tupK G.K) (pv 4) (pv 5) (fun _ _ => rfl)) (pv 6) (fun _ _ => rfl)) pa_nil))))))) (fun _ _ _ _ _ => (pe_tup (pa_cons (pv 5) (pa_cons (pv 6) pa_nil)))))
      (pss_one (ps_ret (pe_ifExp (pt_cmpR (Kv.op_neDK G.K hr.units) (pv 7) (pe_lst pa_nil) (nomark _)) (pe_ix (Kv.ix_listK G.K) (pv 7) pe_int (fun _ _ => rfl)) pe_non)))))))), ?_⟩)
  obtain ⟨_, S, es, y, dm, rl, hR, kk⟩ := h
  refine fn_run dm rl kk ?_
  clear kk rl dm
  obtain ⟨n, u, m, m', rfl, wz, wz', rfl⟩ := hR
  have n3 := wz.n3
  cases hc : closedForm m with
  | none => exact em_seq (N1 := fun _ _ => False) (em_ifT (et_test (ev_isNb (ev_closed Z.nod (ev_var rfl)) (by rw [hc]; rfl))) (em_ret ev_non rfl)) fun _ _ z => z.elim
  | some c =>
  refine em_seq (N1 := fun ρ om => ρ = [some (.zone n u m), some (.zone n u m'), none, none, none, none, none, none] ∧ om = []) (em_gate (et_test (ev_isNb (ev_closed Z.nod (ev_var rfl)) (by rw [hc]; rfl))) ⟨rfl, rfl⟩) ?_
  rintro ρ om ⟨rfl, rfl⟩
  cases hc' : closedForm m' with
  | none => exact em_seq (N1 := fun _ _ => False) (em_ifT (et_test (ev_isNb (ev_closed Z.nod (ev_var rfl)) (by rw [hc']; rfl))) (em_ret (ev_tup (ds := [.int 0, .int 0]) (ea_cons ev_int (ea_cons ev_int ea_nil)) (Nat.le_of_ble_eq_true rfl)) rfl)) fun _ _ z => z.elim
  | some c' =>
  have sqc := (closedForm_some wz.sq hc).1
  have sqc' := (closedForm_some wz'.sq hc').1
  refine em_seq (N1 := fun ρ om => ρ = [some (.zone n u m), some (.zone n u m'), none, none, none, none, none, none] ∧ om = []) (em_gate (et_test (ev_isNb (ev_closed Z.nod (ev_var rfl)) (by rw [hc']; rfl))) ⟨rfl, rfl⟩) ?_
  rintro ρ om ⟨rfl, rfl⟩
  refine em_seq (N1 := fun ρ om => ρ = [some (.zone n u m), some (.zone n u m'), some (.dat (rgD (n + 1))), none, none, none, none, none] ∧ om = []) (em_asg (El.ed (el_rng (n := n + 1) (Ev.to (ev_I0 (ev_clocks Z.nod (ev_var rfl)) ev_int) rfl) (by omega))) (by simp [slots]) ⟨rfl, rfl⟩) ?_
  rintro ρ om ⟨rfl, rfl⟩
  refine em_seq (N1 := fun ρ om => ρ = [some (.zone n u m), some (.zone n u m'), some (.dat (rgD (n + 1))), some (.dat (matD c)), some (.dat (matD c')), none, none, none] ∧ om = []) (em_asgT (x := .dat (.tuple [matD c, matD c'])) (js := [3, 4]) (ev_tup (ds := [matD c, matD c']) (ea_cons (Ev.to (ev_closed Z.nod (ev_var rfl)) (by rw [hc]; rfl)) (ea_cons (Ev.to (ev_closed Z.nod (ev_var rfl)) (by rw [hc']; rfl)) ea_nil)) (Nat.le_of_ble_eq_true rfl)) tg_2 (by simp [slots]) ⟨rfl, rfl⟩) ?_
  rintro ρ om ⟨rfl, rfl⟩
  generalize hP : ((List.range (n + 1)).flatMap fun i => ((List.range (n + 1)).filter fun j => !leO (ent c i j) (ent c' i j)).map fun j => (i, j)) = Ps
  have hg : greaterAt (n + 1) (some c) (some c') = Ps.head? := congrArg List.head? hP
  refine em_seq (N1 := fun ρ om => ρ = [some (.zone n u m), some (.zone n u m'), some (.dat (rgD (n + 1))), some (.dat (matD c)), some (.dat (matD c')), none, none, some (.dat (.list (Ps.map fun p => prD (some p))))] ∧ om = []) (em_asg (El.ed (El.to (el_lc2 (js := [5]) (js1 := [6]) (l := List.range (n + 1)) (m := List.range (n + 1)) (enc := fun (i : Nat) => eI i) (enc1 := fun (i : Nat) => eI i) (fun i j => !leO (ent c i j) (ent c' i j)) (fun i j => prD (some (i, j))) (sr_lstM (ev_var rfl)) (by rw [List.length_range]; have : (n + 1) * (n + 1) ≤ 4 * 4 := Nat.mul_le_mul (by omega) (by omega); omega) (by simp) (by simp) fun i hi => ⟨_, tg_name, sr_lstM (ev_var rfl), fun j hj => ⟨_, tg_name, et_not (et_test (ev_call (ea_cons (ev_ixT (ev_ixT (ev_var rfl) (ev_var rfl) (at_mat sqc (List.mem_range.mp hi))) (ev_var rfl) (at_ent sqc (List.mem_range.mp hi) (List.mem_range.mp hj))) (ea_cons (ev_ixT (ev_ixT (ev_var rfl) (ev_var rfl) (at_mat sqc' (List.mem_range.mp hi))) (ev_var rfl) (at_ent sqc' (List.mem_range.mp hi) (List.mem_range.mp hj))) ea_nil)) ⟨_, _, rfl, rfl⟩)), fun _ => ev_tup (ds := [.int i, .int j]) (ea_cons (ev_var rfl) (ea_cons (ev_var rfl) ea_nil)) (Nat.le_of_ble_eq_true rfl)⟩⟩) ?_)) (by simp [slots]) ⟨rfl, rfl⟩) ?_
  · rw [← hP, List.map_flatMap]
    refine congrArg (fun f => List.flatMap f (List.range (n + 1))) (funext fun i => ?_)
    rw [List.map_map]
    rfl
  rintro ρ om ⟨rfl, rfl⟩
  rw [hg]
  cases Ps with
  | nil => exact em_ret (ev_ifF (Et.to (et_test (ev_neD (ev_var rfl) (El.ed (el_lst (ds := []) ea_nil (Nat.le_of_ble_eq_true rfl))) (prs_shaped []) rfl)) rfl) ev_non) rfl
  | cons p Ps => exact em_ret (ev_ifT (Et.to (et_test (ev_neD (ev_var rfl) (El.ed (el_lst (ds := []) ea_nil (Nat.le_of_ble_eq_true rfl))) (prs_shaped (p :: Ps)) rfl)) rfl) (ev_ixL (ev_var rfl) ev_int (atI_nat (j := 0) rfl))) rfl
def R_is_within (es : List Ent) (y : Ent) : Prop := ∃ (n u : Nat) (m m' : Mat), es = [.zone n u m, .zone n u m'] ∧ WZ n u m ∧ WZ n u m' ∧ y = eB (withinO (n + 1) (closedForm m) (closedForm m'))
abbrev s_Zone_is_within : Stmt := (inClass (topS 39) 12)
abbrev N_Zone_is_within : List Str := ["self", "other"]
theorem sc_Zone_is_within : FnScope N_Zone_is_within ["self", "other"] (defScope s_Zone_is_within) := ⟨rfl, rfl, rfl, by decide +kernel, rfl, by decide +kernel, by decide +kernel⟩
theorem ok_Zone_is_within {f : Addr} {fd : FuncData} (F : Fun G.K "is_within" "Zone.is_within" s_Zone_is_within f fd) (B : Bi mg) (Z : Zo G mg) (h_require_like : Has P w G.K mg base "require_like" 2 ["zone", "value"] (spE G 2 R_require_like)) (h_greater_at : Has P w G.K mg base "greater_at" 2 ["zone", "other"] (spE G 2 R_greater_at)) : FnOk P w G.K mg base CX0 3 f fd ["self", "other"] (spE G 2 R_is_within) := by
  refine F.ok sc_Zone_is_within (fun vs H Q E h => h.1) (fun cdv A outer s H vs Q E hr h => ⟨_, (pss_cons (ps_expr (pe_fn h_require_like hr (by decide) (pa_cons (pv 0) (pa_cons (pv 1) pa_nil))))
      (pss_one (ps_ret (pe_cmpR op_isN (pe_fn h_greater_at hr (by decide) (pa_cons (pv 0) (pa_cons (pv 1) pa_nil))) pe_non (nomark _))))), ?_⟩)
  obtain ⟨_, S, es, y, dm, rl, hR, kk⟩ := h
  refine fn_run dm rl kk ?_
  clear kk rl dm
  obtain ⟨n, u, m, m', rfl, wz, wz', rfl⟩ := hR
  refine em_seq (N1 := fun ρ om => ρ = [some (.zone n u m), some (.zone n u m')] ∧ om = []) (em_drop (ev_call (ea_cons (ev_var rfl) (ea_cons (ev_var rfl) ea_nil)) ⟨n, u, m, m', rfl, rfl⟩) ⟨rfl, rfl⟩) ?_
  rintro ρ om ⟨rfl, rfl⟩
  refine em_ret (ev_isNb (ev_call (ea_cons (ev_var rfl) (ea_cons (ev_var rfl) ea_nil)) ⟨n, u, m, m', rfl, wz, wz', rfl⟩) ?_) rfl
  have q := greater_none (n := n + 1) (a := closedForm m) (b := closedForm m')
  cases h : greaterAt (n + 1) (closedForm m) (closedForm m') with
  | none => rw [q.mp h]; rfl
  | some p =>
    cases h2 : withinO (n + 1) (closedForm m) (closedForm m') with
    | false => rfl
    | true =>
      rw [q.mpr h2] at h
      cases h
/-- what outside tells -/
def outE (n u : Nat) (m m' : Mat) : Ent := match closedForm m, closedForm m', greaterAt (n + 1) (closedForm m) (closedForm m') with
  | some c, none, some _ => .dat (rdD (rdOf (n + 1) u (leastP c)))
  | some c, some c', some (i, j) => match closedForm (withBound c j i (outW (ent c i j) (ent c' i j))) with
    | some f => .dat (rdD (rdOf (n + 1) u (leastP f)))
    | none => eN
  | _, _, _ => eN
inductive Outs (n u : Nat) (m m' : Mat) : Ent → Prop
  | within (h : withinO (n + 1) (closedForm m) (closedForm m') = true) : Outs n u m m' eN
  | pt (h : withinO (n + 1) (closedForm m) (closedForm m') = false) (P : Nat → Int) (p : Pt (n + 1) P) (k : Keeps (n + 1) m P) (k' : ¬ Keeps (n + 1) m' P) : Outs n u m m' (.dat (rdD (rdOf (n + 1) u P)))
theorem outs (n u : Nat) (m m' : Mat) (s : Sq (n + 1) m) (s' : Sq (n + 1) m') : Outs n u m m' (outE n u m m') := by
  have q := greater_none (n := n + 1) (a := closedForm m) (b := closedForm m')
  unfold outE
  cases hg : greaterAt (n + 1) (closedForm m) (closedForm m') with
  | none =>
    have w := q.mp hg
    cases h1 : closedForm m <;> cases h2 : closedForm m' <;> exact .within w
  | some p =>
    obtain ⟨i, j⟩ := p
    have w : withinO (n + 1) (closedForm m) (closedForm m') = false := by
      cases h2 : withinO (n + 1) (closedForm m) (closedForm m') with
      | false => rfl
      | true =>
        rw [q.mpr h2] at hg
        cases hg
    cases h1 : closedForm m with
    | none => rw [h1] at w; cases w
    | some c =>
      cases h2 : closedForm m' with
      | none =>
        obtain ⟨a1, a2, a3⟩ := outside_empty s s' h1 h2 (Nat.succ_pos n)
        exact .pt w _ a1 a2 a3
      | some c' =>
        rw [h1, h2] at hg
        obtain ⟨f, hf, a1, a2, a3⟩ := outside_pt s s' h1 h2 (Nat.succ_pos n) hg
        show Outs n u m m' (match closedForm (withBound c j i (outW (ent c i j) (ent c' i j))) with
          | some f => .dat (rdD (rdOf (n + 1) u (leastP f)))
          | none => eN)
        rw [hf]
        exact .pt w _ a1 a2 a3
def R_outside (es : List Ent) (y : Ent) : Prop := ∃ (n u : Nat) (m m' : Mat), es = [.zone n u m, .zone n u m'] ∧ WZ n u m ∧ WZ n u m' ∧ y = outE n u m m'
abbrev s_Zone_outside : Stmt := (inClass (topS 39) 13)
abbrev N_Zone_outside : List Str := ["self", "other", "place", "first", "last", "number"]
theorem sc_Zone_outside : FnScope N_Zone_outside ["self", "other"] (defScope s_Zone_outside) := ⟨rfl, rfl, rfl, by decide +kernel, rfl, by decide +kernel, by decide +kernel⟩
theorem ok_Zone_outside {f : Addr} {fd : FuncData} (F : Fun G.K "outside" "Zone.outside" s_Zone_outside f fd) (B : Bi mg) (Z : Zo G mg) (h_require_like : Has P w G.K mg base "require_like" 2 ["zone", "value"] (spE G 2 R_require_like)) (h_greater_at : Has P w G.K mg base "greater_at" 2 ["zone", "other"] (spE G 2 R_greater_at)) (h_least_of : Has P w G.K mg base "least_of" 3 ["closed", "unit"] (spE G 2 R_least_of)) (h_point_with : Has P w G.K mg base "point_with" 5 ["zone", "first", "last", "number"] (spE G 4 R_point_with)) : FnOk P w G.K mg base CX0 6 f fd ["self", "other"] (spE G 2 R_outside) := by
  refine F.ok sc_Zone_outside (fun vs H Q E h => h.1) (fun cdv A outer s H vs Q E hr h => ⟨_, (pss_cons (ps_expr (pe_fn h_require_like hr (by decide) (pa_cons (pv 0) (pa_cons (pv 1) pa_nil))))
      (pss_cons (ps_set (i := 2) sc_Zone_outside.nd rfl (Or.inl rfl) (pe_fn h_greater_at hr (by decide) (pa_cons (pv 0) (pa_cons (pv 1) pa_nil))))
      (pss_cons (ps_if (PW.pt (pw_or (pt_cmpR op_isN (pv 2) pe_non (nomark _)) (pw_or1 (pt_cmpR op_isN (Kv.pe_slK G.K (pv 1)) pe_non (nomark _))))) (pss_one (ps_ret (pe_ifExp (pt_cmpR op_isN (pv 2) pe_non (nomark _)) pe_non (pe_fn h_least_of hr (by decide) (pa_cons (Kv.pe_slK G.K (pv 0)) (pa_cons (Kv.pe_slK G.K (pv 0)) pa_nil)))))) pss_nil)
      (pss_cons (ps_asg (pv 2) (Kv.pg_tupK G.K (n := 2) rfl (pgs_cons (pg_name (i := 3) sc_Zone_outside.nd rfl (Or.inl rfl)) (pgs_cons (pg_name (i := 4) sc_Zone_outside.nd rfl (Or.inl rfl)) pgs_nil))))
      (pss_cons (ps_set (i := 5) sc_Zone_outside.nd rfl (Or.inl rfl) (pe_ix (Kv.ix_tupK G.K) (pe_ix (Kv.ix_tupK G.K) (Kv.pe_slK G.K (pv 0)) (pv 3) (fun _ _ => rfl)) (pv 4) (fun _ _ => rfl)))
      (pss_one (ps_ret (pe_fn h_point_with hr (by decide) (pa_cons (pv 0) (pa_cons (pv 4) (pa_cons (pv 3) (pa_cons (pe_ifExp (pt_cmpR op_notN (pv 5) pe_non (nomark _)) (pe_un un_neg (pv 5)) (pe_op op_sub (pe_un un_neg (pe_ix (Kv.ix_tupK G.K) (pe_ix (Kv.ix_tupK G.K) (Kv.pe_slK G.K (pv 1)) (pv 3) (fun _ _ => rfl)) (pv 4) (fun _ _ => rfl))) pe_int)) pa_nil)))))))))))), ?_⟩)
  obtain ⟨_, S, es, y, dm, rl, hR, kk⟩ := h
  refine fn_run dm rl kk ?_
  clear kk rl dm
  obtain ⟨n, u, m, m', rfl, wz, wz', rfl⟩ := hR
  have n3 := wz.n3
  have hE : ∀ y, y = outE n u m m' → noDie y = true := fun y e => by
    have := outs n u m m' wz.sq wz'.sq
    rw [← e] at this
    cases this <;> rfl
  generalize hy : outE n u m m' = y0
  refine em_seq (N1 := fun ρ om => ρ = [some (.zone n u m), some (.zone n u m'), none, none, none, none] ∧ om = []) (em_drop (ev_call (ea_cons (ev_var rfl) (ea_cons (ev_var rfl) ea_nil)) ⟨n, u, m, m', rfl, rfl⟩) ⟨rfl, rfl⟩) ?_
  rintro ρ om ⟨rfl, rfl⟩
  generalize hg : greaterAt (n + 1) (closedForm m) (closedForm m') = g
  refine em_seq (N1 := fun ρ om => ρ = [some (.zone n u m), some (.zone n u m'), some (.dat (prD g)), none, none, none] ∧ om = []) (em_asg (ev_call (ea_cons (ev_var rfl) (ea_cons (ev_var rfl) ea_nil)) ⟨n, u, m, m', rfl, wz, wz', by rw [hg]⟩) (by simp [slots]) ⟨rfl, rfl⟩) ?_
  rintro ρ om ⟨rfl, rfl⟩
  have q := greater_none (n := n + 1) (a := closedForm m) (b := closedForm m')
  rw [hg] at q
  unfold outE at hy
  rw [hg] at hy
  cases g with
  | none =>
    have e : y0 = eN := by
      rw [← hy]
      cases closedForm m <;> cases closedForm m' <;> rfl
    exact em_seq (N1 := fun _ _ => False) (em_ifT (et_orT (et_test (ev_isNb (ev_var rfl)))) (em_ret (ev_ifT (et_test (ev_isNb (ev_var rfl))) ev_non) e.symm)) fun _ _ z => z.elim
  | some p =>
  obtain ⟨i, j⟩ := p
  cases h1 : closedForm m with
  | none => rw [h1] at q; have := q.mpr rfl; cases this
  | some c =>
  have sqc := (closedForm_some wz.sq h1).1
  have hcl : ∀ {ρ : Rho} {t : TE}, Ev { G with dd := none } t ρ (.zone n u m) → Ed { G with dd := none } (SlX.tSl G.K t "own_closed") ρ (matD c) := fun h => Ev.to (ev_closed Z.nod h) (by rw [h1]; rfl)
  cases h2 : closedForm m' with
  | none =>
    rw [h1, h2] at hy
    have e : y0 = .dat (rdD (rdOf (n + 1) u (leastP c))) := hy.symm
    subst e
    exact em_seq (N1 := fun _ _ => False) (em_ifT (et_orF (et_test (ev_isNb (ev_var rfl))) (et_test (ev_isNb (ev_closed Z.nod (ev_var rfl)) (by rw [h2]; rfl)))) (em_ret (ev_ifF (et_test (ev_isNb (ev_var rfl))) (ev_call (ea_cons (hcl (ev_var rfl)) (ea_cons (ev_unit Z.nod (ev_var rfl)) ea_nil)) ⟨n + 1, u, c, rfl, sqc, by omega, ⟨wz.u1, wz.u64⟩, row_some wz.sq h1, rfl⟩)) rfl)) fun _ _ z => z.elim
  | some c' =>
  have sqc' := (closedForm_some wz'.sq h2).1
  have hcl' : ∀ {ρ : Rho} {t : TE}, Ev { G with dd := none } t ρ (.zone n u m') → Ed { G with dd := none } (SlX.tSl G.K t "own_closed") ρ (matD c') := fun h => Ev.to (ev_closed Z.nod h) (by rw [h2]; rfl)
  rw [h1, h2] at hg hy
  obtain ⟨hi, hj, hl⟩ := greater_some hg
  obtain ⟨f', hf, _⟩ := outside_pt wz.sq wz'.sq h1 h2 (Nat.succ_pos n) hg
  have e : y0 = .dat (rdD (rdOf (n + 1) u (leastP f'))) := by
    rw [← hy]
    show (match closedForm (withBound c j i (outW (ent c i j) (ent c' i j))) with
          | some f => Ent.dat (rdD (rdOf (n + 1) u (leastP f)))
          | none => eN) = _
    rw [hf]
  subst e
  refine em_seq (N1 := fun ρ om => ρ = [some (.zone n u m), some (.zone n u m'), some (.dat (prD (some (i, j)))), none, none, none] ∧ om = []) (em_gate (et_orF (et_test (ev_isNb (ev_var rfl))) (et_test (ev_isNb (ev_closed Z.nod (ev_var rfl)) (by rw [h2]; rfl)))) ⟨rfl, rfl⟩) ?_
  rintro ρ om ⟨rfl, rfl⟩
  refine em_seq (N1 := fun ρ om => ρ = [some (.zone n u m), some (.zone n u m'), some (.dat (prD (some (i, j)))), some (eI i), some (eI j), none] ∧ om = []) (em_asgT (js := [3, 4]) (ev_var rfl) tg_2 (by simp [slots]) ⟨rfl, rfl⟩) ?_
  rintro ρ om ⟨rfl, rfl⟩
  refine em_seq (N1 := fun ρ om => ρ = [some (.zone n u m), some (.zone n u m'), some (.dat (prD (some (i, j)))), some (eI i), some (eI j), some (eO (ent c i j))] ∧ om = []) (em_asg (ev_ixT (ev_ixT (hcl (ev_var rfl)) (ev_var rfl) (at_mat sqc hi)) (ev_var rfl) (at_ent sqc hi hj)) (by simp [slots]) ⟨rfl, rfl⟩) ?_
  rintro ρ om ⟨rfl, rfl⟩
  refine em_ret (ev_call (ea_cons (ev_var rfl) (ea_cons (ev_var rfl) (ea_cons (ev_var rfl) (ea_cons (x := eI (outW (ent c i j) (ent c' i j))) ?_ ea_nil)))) ⟨n, u, m, c, f', j, i, _, rfl, wz, h1, hj, hi, hf, rfl⟩) rfl
  cases hx : ent c i j with
  | some x => exact ev_ifT (et_test (ev_notNb (ev_var rfl))) (ev_neg (ev_var rfl))
  | none =>
    rw [hx] at hl
    cases hx' : ent c' i j with
    | none => rw [hx'] at hl; cases hl
    | some y => exact ev_ifF (et_test (ev_notNb (ev_var rfl))) (ev_I0 (ev_neg (Ev.to (ev_ixT (ev_ixT (hcl' (ev_var rfl)) (ev_var rfl) (at_mat sqc' hi)) (ev_var rfl) (at_ent sqc' hi hj)) (congrArg eO hx'))) ev_int)
def R_made_zone (es : List Ent) (y : Ent) : Prop := ∃ (n u : Nat) (m : Mat), es = [eI n, eI u, .dat (matD m)] ∧ WZ n u m ∧ y = .zone n u m
abbrev s_made_zone : Stmt := (topS 40)
abbrev N_made_zone : List Str := ["clocks", "unit", "rows"]
theorem sc_made_zone : FnScope N_made_zone ["clocks", "unit", "rows"] (defScope s_made_zone) := ⟨rfl, rfl, rfl, by decide +kernel, rfl, by decide +kernel, by decide +kernel⟩
theorem ok_made_zone {f : Addr} {fd : FuncData} (F : Fun G.K "made_zone" "made_zone" s_made_zone f fd) (B : Bi mg)  (h_KnownBounds : HasI P w G.K mg base "KnownBounds" G.B 1 ["self", "rows"] (spI G G.B 1 R_kb)) (h_Zone : HasI P w G.K mg base "Zone" G.Z 6 ["self", "clocks", "unit", "bounds"] (spI G G.Z 3 R_zi)) : FnOk P w G.K mg base CX0 8 f fd ["clocks", "unit", "rows"] (spE G 3 R_made_zone) := by
  refine F.ok sc_made_zone (fun vs H Q E h => h.1) (fun cdv A outer s H vs Q E hr h => ⟨_, (pss_one (ps_ret (pe_mk h_Zone hr (by decide) (pa_cons (pv 0) (pa_cons (pv 1) (pa_cons (pe_mk h_KnownBounds hr (by decide) (pa_cons (pv 2) pa_nil)) pa_nil)))))), ?_⟩)
  obtain ⟨_, S, es, y, dm, rl, hR, kk⟩ := h
  refine fn_run dm rl kk ?_
  clear kk rl dm
  obtain ⟨n, u, m, rfl, wz, rfl⟩ := hR
  exact em_ret (ev_mk (ea_cons (ev_var rfl) (ea_cons (ev_var rfl) (ea_cons (ev_mk (ea_cons (ev_var rfl) ea_nil) ⟨m, rfl, rfl⟩) ea_nil))) ⟨n, u, m, .known m, rfl, ⟨wz.n1, wz.n3⟩, ⟨wz.u1, wz.u64⟩, wz.sq, .inl rfl, rfl⟩) rfl
def R_met (es : List Ent) (y : Ent) : Prop := ∃ (n u : Nat) (m m' : Mat), es = [.zone n u m, .zone n u m'] ∧ WZ n u m ∧ WZ n u m' ∧ y = .zone n u (both (n + 1) m m')
theorem sq_both (n : Nat) (a b : Mat) : Sq n (both n a b) := sq_tab n _
theorem zip_range {α β : Type} (d : α) (e : β) {n : Nat} {l : List α} {m : List β} (h1 : l.length = n) (h2 : m.length = n) : l.zip m = (List.range n).map fun k => (l.getD k d, m.getD k e) := by
  refine List.ext_getElem? fun i => ?_
  rw [List.getElem?_map]
  by_cases hi : i < n
  · rw [List.getElem?_range hi]
    have := zip_getD d e (l := l) (m := m) (k := i) (by omega) (by omega)
    rw [List.getD_eq_getElem?_getD, List.getElem?_eq_getElem (by rw [List.length_zip]; omega)] at this
    rw [List.getElem?_eq_getElem (by rw [List.length_zip]; omega)]
    exact congrArg some this
  · rw [List.getElem?_eq_none (by rw [List.length_zip]; omega), List.getElem?_eq_none (by rw [List.length_range]; omega)]
    rfl
abbrev s_Zone_met : Stmt := (inClass (topS 39) 14)
abbrev N_Zone_met : List Str := ["self", "other", "row", "more", "a", "b", "rows"]
theorem sc_Zone_met : FnScope N_Zone_met ["self", "other"] (defScope s_Zone_met) := ⟨rfl, rfl, rfl, by decide +kernel, rfl, by decide +kernel, by decide +kernel⟩
theorem ok_Zone_met {f : Addr} {fd : FuncData} (F : Fun G.K "met" "Zone.met" s_Zone_met f fd) (B : Bi mg) (Z : Zo G mg) (h_require_like : Has P w G.K mg base "require_like" 2 ["zone", "value"] (spE G 2 R_require_like)) (h_lesser : Has P w G.K mg base "lesser" 1 ["one", "other"] (spE G 2 R_lesser)) (h_made_zone : Has P w G.K mg base "made_zone" 8 ["clocks", "unit", "rows"] (spE G 3 R_made_zone)) : FnOk P w G.K mg base CX0 9 f fd ["self", "other"] (spE G 2 R_met) := by
  refine F.ok sc_Zone_met (fun vs H Q E h => h.1) (fun cdv A outer s H vs Q E hr h => ⟨_, (pss_cons (ps_expr (pe_fn h_require_like hr (by decide) (pa_cons (pv 0) (pa_cons (pv 1) pa_nil))))
      (pss_cons (ps_setLc (i := 6) rfl sc_Zone_met.nd rfl rfl (sw_true rfl rfl rfl (by decide +kernel)) (Kv.pi_zipK G.K (by rfl) B.zip (pa_cons (Kv.pe_slK G.K (pv 0)) (pa_cons (Kv.pe_slK G.K (pv 1)) pa_nil))) (blkOk_by (own := [("row", 2), ("more", 3)]) (N := N_Zone_met) (sc := (defScope s_Zone_met)) (by decide +kernel)) (fun _ _ _ _ _ => (Kv.pg_tupK G.K (n := 2) rfl (pgs_cons (pg_name (i := 2) sc_Zone_met.nd rfl (Or.inl rfl)) (pgs_cons (pg_name (i := 3) sc_Zone_met.nd rfl (Or.inl rfl)) pgs_nil)))) (fun _ _ _ _ _ => pts_nil) (fun _ _ _ _ _ => (Kv.pe_tupleOfK G.K (by rfl) B.tuple (pe_lc rfl sc_Zone_met.nd (Kv.pi_zipK G.K (by rfl) B.zip (pa_cons (pv 2) (pa_cons (pv 3) pa_nil))) (blkOk_by (own := [("a", 4), ("b", 5)]) (N := N_Zone_met) (sc := (relS { kind := PySem.ScopeKind.function, names := [ (PySem.Str.ofString ".0", PySem.NameKind.local), (PySem.Str.ofString "row", PySem.NameKind.local), (PySem.Str.ofString "more", PySem.NameKind.local), (PySem.Str.ofString "tuple", PySem.NameKind.globalImplicit), (PySem.Str.ofString "zip", PySem.NameKind.globalImplicit)], isGenerator := false, isCoroutine := false, more := [] : PySem.Scope } (defScope s_Zone_met))) (by decide +kernel)) (fun _ _ _ _ _ => (Kv.pg_tupK G.K (n := 2) rfl (pgs_cons (pg_name (i := 4) sc_Zone_met.nd rfl (Or.inl rfl)) (pgs_cons (pg_name (i := 5) sc_Zone_met.nd rfl (Or.inl rfl)) pgs_nil)))) (fun _ _ _ _ _ => pts_nil) (fun _ _ _ _ _ => (pe_fn h_lesser hr (by decide) (pa_cons (pv 4) (pa_cons (pv 5) pa_nil))))))))
      (pss_one (ps_ret (pe_fn h_made_zone hr (by decide) (pa_cons (Kv.pe_slK G.K (pv 0)) (pa_cons (Kv.pe_slK G.K (pv 0)) (pa_cons (Kv.pe_tupleOfK G.K (by rfl) B.tuple (pv 6)) pa_nil)))))))), ?_⟩)
  obtain ⟨_, S, es, y, dm, rl, hR, kk⟩ := h
  refine fn_run dm rl kk ?_
  clear kk rl dm
  obtain ⟨n, u, m, m', rfl, wz, wz', rfl⟩ := hR
  have n3 := wz.n3
  have sa := wz.sq
  have sb := wz'.sq
  refine em_seq (N1 := fun ρ om => ρ = [some (.zone n u m), some (.zone n u m'), none, none, none, none, none] ∧ om = []) (em_drop (ev_call (ea_cons (ev_var rfl) (ea_cons (ev_var rfl) ea_nil)) ⟨n, u, m, m', rfl, rfl⟩) ⟨rfl, rfl⟩) ?_
  rintro ρ om ⟨rfl, rfl⟩
  refine em_seq (N1 := fun ρ om => ρ = [some (.zone n u m), some (.zone n u m'), none, none, none, none, some (.dat (.list ((both (n + 1) m m').map rowD)))] ∧ om = []) (em_asg (El.ed (El.to (el_lc (js := [2, 3]) (l := m.zip m') (enc := fun p => .dat (.tuple [rowD p.1, rowD p.2])) (fun p => .tuple ((p.1.zip p.2).map fun q => oi (lesserO q.1 q.2))) (sr_zipM (f := rowD) (g := rowD) (ea_cons (ev_told Z.nod (ev_var rfl)) (ea_cons (ev_told Z.nod (ev_var rfl)) ea_nil))) (by rw [List.length_zip, sa.len]; omega) (by simp) fun p hp => ⟨_, tg_2, ev_tupleOf (.inl (El.ed (el_lc (js := [4, 5]) (l := p.1.zip p.2) (enc := fun q => .dat (.tuple [oi q.1, oi q.2])) (fun q => oi (lesserO q.1 q.2)) (sr_zipM (f := oi) (g := oi) (ea_cons (ev_var rfl) (ea_cons (ev_var rfl) ea_nil))) (by rw [List.length_zip]; have := sa.row p.1 (by obtain ⟨a, b⟩ := p; exact (List.of_mem_zip hp).1); omega) (by simp) fun q hq => ⟨_, tg_2, ev_call (ea_cons (ev_var rfl) (ea_cons (ev_var rfl) ea_nil)) ⟨_, _, rfl, rfl⟩⟩)))⟩) ?_)) (by simp [slots]) ⟨rfl, rfl⟩) ?_
  · rw [zip_range [] [] sa.len sb.len]
    unfold both tab
    rw [List.map_map, List.map_map]
    refine List.map_congr_left fun i hi => ?_
    have hi := List.mem_range.mp hi
    show PyData.tuple (((m.getD i []).zip (m'.getD i [])).map fun q => oi (lesserO q.1 q.2)) = PyData.tuple (((List.range (n + 1)).map _).map oi)
    rw [zip_range none none (Sq.rowlen sa hi) (Sq.rowlen sb hi), List.map_map, List.map_map]
    rfl
  rintro ρ om ⟨rfl, rfl⟩
  exact em_ret (ev_call (ea_cons (ev_clocks Z.nod (ev_var rfl)) (ea_cons (ev_unit Z.nod (ev_var rfl)) (ea_cons (ev_tupleOf (.inl (ev_var rfl))) ea_nil))) ⟨n, u, _, rfl, ⟨wz.n1, wz.n3, wz.u1, wz.u64, sq_both _ _ _⟩, rfl⟩) rfl
def R_finer (es : List Ent) (y : Ent) : Prop := ∃ (n u t : Nat) (m : Mat), es = [.zone n u m, eI t] ∧ WZ n u m ∧ 1 ≤ t ∧ u * t ≤ 64 ∧ y = .zone n ((u * t : Nat) : Int) (scale t m)
abbrev s_Zone_finer : Stmt := (inClass (topS 39) 15)
abbrev N_Zone_finer : List Str := ["self", "times", "row", "one", "rows"]
theorem sc_Zone_finer : FnScope N_Zone_finer ["self", "times"] (defScope s_Zone_finer) := ⟨rfl, rfl, rfl, by decide +kernel, rfl, by decide +kernel, by decide +kernel⟩
theorem ok_Zone_finer {f : Addr} {fd : FuncData} (F : Fun G.K "finer" "Zone.finer" s_Zone_finer f fd) (B : Bi mg) (Z : Zo G mg) (h_is_from : Has P w G.K mg base "is_from" 2 ["value", "least", "most"] (spE G 3 R_is_from)) (h_made_zone : Has P w G.K mg base "made_zone" 8 ["clocks", "unit", "rows"] (spE G 3 R_made_zone)) : FnOk P w G.K mg base CX0 9 f fd ["self", "times"] (spE G 2 R_finer) := by
  refine F.ok sc_Zone_finer (fun vs H Q E h => h.1) (fun cdv A outer s H vs Q E hr h => ⟨_, (pss_cons (ps_if (pt_not (pt_val (pe_fn h_is_from hr (by decide) (pa_cons (pv 1) (pa_cons pe_int (pa_cons (pe_op op_fdiv (pe_gi B.g_MOST_UNIT) (Kv.pe_slK G.K (pv 0))) pa_nil)))))) (pss_one ps_never) pss_nil)
      (pss_cons (ps_setLc (i := 4) rfl sc_Zone_finer.nd rfl rfl (sw_true rfl rfl rfl (by decide +kernel)) (Kv.pi_tupK G.K (Kv.pe_slK G.K (pv 0))) (blkOk_by (own := [("row", 2)]) (N := N_Zone_finer) (sc := (defScope s_Zone_finer)) (by decide +kernel)) (fun _ _ _ _ _ => (pg_name (i := 2) sc_Zone_finer.nd rfl (Or.inl rfl))) (fun _ _ _ _ _ => pts_nil) (fun _ _ _ _ _ => (Kv.pe_tupleOfK G.K (by rfl) B.tuple (pe_lc rfl sc_Zone_finer.nd (Kv.pi_tupK G.K (pv 2)) (blkOk_by (own := [("one", 3)]) (N := N_Zone_finer) (sc := (relS { kind := PySem.ScopeKind.function, names := [ (PySem.Str.ofString ".0", PySem.NameKind.local), (PySem.Str.ofString "row", PySem.NameKind.local), (PySem.Str.ofString "tuple", PySem.NameKind.globalImplicit), (PySem.Str.ofString "times", PySem.NameKind.free)], isGenerator := false, isCoroutine := false, more := [] : PySem.Scope } (defScope s_Zone_finer))) (by decide +kernel)) (fun _ _ _ _ _ => (pg_name (i := 3) sc_Zone_finer.nd rfl (Or.inl rfl))) (fun _ _ _ _ _ => pts_nil) (fun _ _ _ _ _ => (pe_ifExp (pt_cmpR op_isN (pv 3) pe_non (nomark _)) pe_non (pe_op op_mul (pv 3) (pv 1))))))))
      (pss_one (ps_ret (pe_fn h_made_zone hr (by decide) (pa_cons (Kv.pe_slK G.K (pv 0)) (pa_cons (pe_op op_mul (Kv.pe_slK G.K (pv 0)) (pv 1)) (pa_cons (Kv.pe_tupleOfK G.K (by rfl) B.tuple (pv 4)) pa_nil)))))))), ?_⟩)
  obtain ⟨_, S, es, y, dm, rl, hR, kk⟩ := h
  refine fn_run dm rl kk ?_
  clear kk rl dm
  obtain ⟨n, u, t, m, rfl, wz, ht, hut, rfl⟩ := hR
  have n3 := wz.n3
  have u1 := wz.u1
  have u64 := wz.u64
  have t64 : t ≤ 64 := Nat.le_trans (Nat.le_mul_of_pos_left t u1) hut
  have hq : (t : Int) ≤ 64 / (u : Int) := by
    rw [Int.le_ediv_iff_mul_le (by omega)]
    rw [Nat.mul_comm] at hut
    have : ((t * u : Nat) : Int) ≤ 64 := by omega
    rw [Int.natCast_mul] at this
    exact this
  refine em_seq (N1 := fun ρ om => ρ = [some (.zone n u m), some (eI t), none, none, none] ∧ om = []) (em_gate (Et.to (et_not (et_test (ev_call (ea_cons (ev_var rfl) (ea_cons ev_int (ea_cons (ev_I ev_int (ev_unit Z.nod (ev_var rfl)) ⟨by omega, by omega⟩) ea_nil))) ⟨t, 1, 64 / (u : Int), rfl, rfl⟩))) ?_) ⟨rfl, rfl⟩) ?_
  · rw [decide_eq_true (show (1 : Int) ≤ t by omega), decide_eq_true hq]
    rfl
  rintro ρ om ⟨rfl, rfl⟩
  refine em_seq (N1 := fun ρ om => ρ = [some (.zone n u m), some (eI t), none, none, some (.dat (.list ((scale t m).map rowD)))] ∧ om = []) (em_asg (El.ed (El.to (el_lc (js := [2]) (l := m) (enc := fun r => .dat (rowD r)) (fun r => .tuple (r.map fun o => oi (scO t o))) (sr_tupM (ev_told Z.nod (ev_var rfl))) (by rw [wz.sq.len]; omega) (by simp) fun r hr => ⟨_, tg_name, ev_tupleOf (.inl (El.ed (el_lc (js := [3]) (l := r) (enc := fun o => eO o) (fun o => oi (scO t o)) (sr_tupM (ev_var rfl)) (by have := wz.sq.row r hr; omega) (by simp) fun o ho => ⟨_, tg_name, ?_⟩)))⟩) ?_)) (by simp [slots]) ⟨rfl, rfl⟩) ?_
  · cases o with
    | none => exact ev_ifT (et_test (ev_isNb (ev_var rfl))) ev_non
    | some x => exact ev_ifF (et_test (ev_isNb (ev_var rfl))) (ev_I (ev_var rfl) (ev_var rfl) (mul_ok ⟨by omega, by omega⟩))
  · unfold scale
    rw [List.map_map]
    refine List.map_congr_left fun r _ => ?_
    show PyData.tuple _ = PyData.tuple ((r.map (scO t)).map oi)
    rw [List.map_map]
    rfl
  rintro ρ om ⟨rfl, rfl⟩
  exact em_ret (ev_call (ea_cons (ev_clocks Z.nod (ev_var rfl)) (ea_cons (Ev.to (ev_I (ev_unit Z.nod (ev_var rfl)) (ev_var rfl) (mul_ok ⟨by omega, by omega⟩)) (y := eI ((u * t : Nat) : Int)) (by rw [Int.natCast_mul])) (ea_cons (ev_tupleOf (.inl (ev_var rfl))) ea_nil))) ⟨n, u * t, _, rfl, ⟨wz.n1, wz.n3, Nat.mul_le_mul u1 ht, hut, sq_scale _ wz.sq⟩, rfl⟩) rfl
def R_eq (es : List Ent) (y : Ent) : Prop := ∃ (c u c' u' : Int) (m m' : Mat), es = [.zone c u m, .zone c' u' m'] ∧ y = eB (decide (c = c' ∧ u = u' ∧ closedForm m = closedForm m'))
theorem smd_3 (a b : Int) (c : Option Mat) : SeqAt.shaped (.tuple [.int a, .int b, clD c]) = true := (smd_tup (k := 2) fun x hx => by
  rcases List.mem_cons.mp hx with rfl | hx
  · exact smd_int _
  · rcases List.mem_cons.mp hx with rfl | hx
    · exact smd_int _
    · rcases List.mem_cons.mp hx with rfl | hx
      · exact smd_cl c
      · cases hx).shaped
theorem eqv_3 (a b a' b' : Int) (c c' : Option Mat) : PyData.eqv (.tuple [.int a, .int b, clD c]) (.tuple [.int a', .int b', clD c']) = decide (a = a' ∧ b = b' ∧ c = c') := by
  rw [Bool.eq_iff_iff, eqv_iff _ _ (by simp [noB, noBs, noB_cl]) (by simp [noB, noBs, noB_cl]), decide_eq_true_eq]
  constructor
  · intro h
    simp only [PyData.tuple.injEq, List.cons.injEq, PyData.int.injEq, and_true] at h
    exact ⟨h.1, h.2.1, clD_inj _ _ h.2.2⟩
  · rintro ⟨rfl, rfl, rfl⟩
    rfl
abbrev s_Zone_eq : Stmt := (inClass (topS 39) 16)
abbrev N_Zone_eq : List Str := ["self", "other", "mine"]
theorem sc_Zone_eq : FnScope N_Zone_eq ["self", "other"] (defScope s_Zone_eq) := ⟨rfl, rfl, rfl, by decide +kernel, rfl, by decide +kernel, by decide +kernel⟩
theorem ok_Zone_eq {f : Addr} {fd : FuncData} (F : Fun G.K "__eq__" "Zone.__eq__" s_Zone_eq f fd) (B : Bi mg) (Z : Zo G mg)  : FnOk P w G.K mg base CX0 1 f fd ["self", "other"] (spE G 2 R_eq) := by
  refine F.ok sc_Zone_eq (fun vs H Q E h => h.1) (fun cdv A outer s H vs Q E hr h => ⟨_, (pss_cons (ps_if (pt_not (pt_val (pe_callB (call_isiSlK G.K (.ref G.Z)) (by rfl) B.isinstance (by decide +kernel) (pa_cons (pv 1) (pa_cons (pe_glob (v := .ref G.Z) (u := .ref G.Z) (by rfl) Z.gz rfl) pa_nil))))) (pss_one (ps_ret pe_bl)) pss_nil)
      (pss_cons (ps_set (i := 2) sc_Zone_eq.nd rfl (Or.inl rfl) (pe_tup (pa_cons (Kv.pe_slK G.K (pv 0)) (pa_cons (Kv.pe_slK G.K (pv 0)) (pa_cons (Kv.pe_slK G.K (pv 0)) pa_nil)))))
      (pss_one (ps_ret (pe_cmpR (Kv.op_eqDK G.K hr.units) (pv 2) (pe_tup (pa_cons (Kv.pe_slK G.K (pv 1)) (pa_cons (Kv.pe_slK G.K (pv 1)) (pa_cons (Kv.pe_slK G.K (pv 1)) pa_nil)))) (nomark _)))))), ?_⟩)
  obtain ⟨_, S, es, y, dm, rl, hR, kk⟩ := h
  refine fn_run dm rl kk ?_
  clear kk rl dm
  obtain ⟨c, u, c', u', m, m', rfl, rfl⟩ := hR
  refine em_seq (N1 := fun ρ om => ρ = [some (.zone c u m), some (.zone c' u' m'), none] ∧ om = []) (em_gate (et_notT (et_test (ev_isiZ Z.nod (ev_var rfl)))) ⟨rfl, rfl⟩) ?_
  rintro ρ om ⟨rfl, rfl⟩
  refine em_seq (N1 := fun ρ om => ρ = [some (.zone c u m), some (.zone c' u' m'), some (.dat (.tuple [.int c, .int u, clD (closedForm m)]))] ∧ om = []) (em_asg (ev_tup (ds := [.int c, .int u, clD (closedForm m)]) (ea_cons (ev_clocks Z.nod (ev_var rfl)) (ea_cons (ev_unit Z.nod (ev_var rfl)) (ea_cons (ev_closed Z.nod (ev_var rfl)) ea_nil))) (Nat.le_of_ble_eq_true rfl)) (by simp [slots]) ⟨rfl, rfl⟩) ?_
  rintro ρ om ⟨rfl, rfl⟩
  exact em_ret (ev_eqD (ev_var rfl) (ev_tup (ds := [.int c', .int u', clD (closedForm m')]) (ea_cons (ev_clocks Z.nod (ev_var rfl)) (ea_cons (ev_unit Z.nod (ev_var rfl)) (ea_cons (ev_closed Z.nod (ev_var rfl)) ea_nil))) (Nat.le_of_ble_eq_true rfl)) (smd_3 _ _ _) (smd_3 _ _ _)) (by rw [eqv_3])
end
end Ek
end

section
set_option Elab.async false
set_option linter.all false
set_option maxRecDepth 100000
set_option maxHeartbeats 4000000
namespace Ek
open PySem PySem.Spec PyProof.Rows L2 K18
open Evl (Ex ex_rd ex_l ex_t fresh_back sz_of sz_lt)
/-- a point's numbers, of its readings -/
def ptOf (l : List (Int × Int)) (u : Int) (k : Nat) : Int := (rdAt l k).1 * (u / (rdAt l k).2)
section
variable {P : Program} {w : World} {mg : Str → Option Value} {base : Heap} {G : Gd}
def R_has (es : List Ent) (y : Ent) : Prop := ∃ (n u : Nat) (m : Mat) (l : List (Int × Int)), es = [.zone n u m, .dat (rdD l)] ∧ WZ n u m ∧ l.length = n ∧ (∀ p ∈ l, RdOk p) ∧ y = eB (hasB (n + 1) u m l)
abbrev s_Zone_has : Stmt := (inClass (topS 39) 7)
abbrev N_Zone_has : List Str := ["self", "readings", "places", "first", "last", "pairs", "one", "other"]
theorem sc_Zone_has : FnScope N_Zone_has ["self", "readings"] (defScope s_Zone_has) := ⟨rfl, rfl, rfl, by decide +kernel, rfl, by decide +kernel, by decide +kernel⟩
theorem ok_Zone_has {f : Addr} {fd : FuncData} (F : Fun G.K "has" "Zone.has" s_Zone_has f fd) (B : Bi mg) (Z : Zo G mg) (h_require_readings : Has P w G.K mg base "require_readings" 5 ["value", "clocks"] (spE G 2 R_require_readings)) (h_is_kept : Has P w G.K mg base "is_kept" 1 ["readings", "first", "last", "number", "unit"] (spE G 5 R_is_kept)) : FnOk P w G.K mg base CX0 6 f fd ["self", "readings"] (spE G 2 R_has) := by
  refine F.ok sc_Zone_has (fun vs H Q E h => h.1) (fun cdv A outer s H vs Q E hr h => ⟨_, (pss_cons (ps_expr (pe_fn h_require_readings hr (by decide) (pa_cons (pv 1) (pa_cons (Kv.pe_slK G.K (pv 0)) pa_nil))))
      (pss_cons (ps_set (i := 2) sc_Zone_has.nd rfl (Or.inr rfl) (pe_listRg rfl (by rfl) B.list (prg_1 (by rfl) B.range (pe_op op_add (Kv.pe_slK G.K (pv 0)) pe_int))))
      (pss_cons (ps_setLc2 (i := 5) rfl sc_Zone_has.nd rfl rfl (sw_true rfl rfl rfl (by decide +kernel)) (Kv.pi_listK G.K (pv 2)) (blkOk_by (own := [("first", 3), ("last", 4)]) (N := N_Zone_has) (sc := (defScope s_Zone_has)) (by decide +kernel)) (vs1 := [4]) (by decide) (fun _ _ _ _ _ => (pg_name (i := 3) sc_Zone_has.nd rfl (Or.inl rfl))) (fun _ _ _ _ _ => pts_nil) (fun _ _ _ _ _ => (Kv.pi_listK G.K (pv 2))) (fun _ _ _ _ _ => (pg_name (i := 4) sc_Zone_has.nd rfl (Or.inl rfl))) (fun _ _ _ _ _ => pts_nil) (fun _ _ _ _ _ => (pe_tup (pa_cons (pv 3) (pa_cons (pv 4) pa_nil)))))
      (pss_one (ps_ret (pe_callB (Kv.cr_allK G.K) (by rfl) B.all (by decide +kernel) (pa_cons (pe_lc rfl sc_Zone_has.nd (Kv.pi_listK G.K (pv 5)) (blkOk_by (own := [("one", 6), ("other", 7)]) (N := N_Zone_has) (sc := (defScope s_Zone_has)) (by decide +kernel)) (fun _ _ _ _ _ => (Kv.pg_tupK G.K (n := 2) rfl (pgs_cons (pg_name (i := 6) sc_Zone_has.nd rfl (Or.inl rfl)) (pgs_cons (pg_name (i := 7) sc_Zone_has.nd rfl (Or.inl rfl)) pgs_nil)))) (fun _ _ _ _ _ => pts_nil) (fun _ _ _ _ _ => (pe_fn h_is_kept hr (by decide) (pa_cons (pv 1) (pa_cons (pv 6) (pa_cons (pv 7) (pa_cons (pe_ix (Kv.ix_tupK G.K) (pe_ix (Kv.ix_tupK G.K) (Kv.pe_slK G.K (pv 0)) (pv 6) (fun _ _ => rfl)) (pv 7) (fun _ _ => rfl)) (pa_cons (Kv.pe_slK G.K (pv 0)) pa_nil)))))))) pa_nil))))))), ?_⟩)
  obtain ⟨_, S, es, y, dm, rl, hR, kk⟩ := h
  refine fn_run dm rl kk ?_
  clear kk rl dm
  obtain ⟨n, u, m, l, rfl, wz, hl, hs, rfl⟩ := hR
  have n3 := wz.n3
  have u1 := wz.u1
  have u64 := wz.u64
  have ud : Und l := fun p hp => ⟨(hs p hp).2.1.1, (hs p hp).2.1.2⟩
  refine em_seq (N1 := fun ρ om => ρ = [some (.zone n u m), some (.dat (rdD l)), none, none, none, none, none, none] ∧ om = []) (em_drop (ev_call (ea_cons (ev_var rfl) (ea_cons (Ev.to (ev_clocks Z.nod (ev_var rfl)) (by rw [← hl])) ea_nil)) ⟨l, rfl, by omega, hs, rfl⟩) ⟨rfl, rfl⟩) ?_
  rintro ρ om ⟨rfl, rfl⟩
  refine em_seq (N1 := fun ρ om => ρ = [some (.zone n u m), some (.dat (rdD l)), some (.dat (rgD (n + 1))), none, none, none, none, none] ∧ om = []) (em_asg (El.ed (el_rng (n := n + 1) (Ev.to (ev_I0 (ev_clocks Z.nod (ev_var rfl)) ev_int) rfl) (by omega))) (by simp [slots]) ⟨rfl, rfl⟩) ?_
  rintro ρ om ⟨rfl, rfl⟩
  generalize hP : ((List.range (n + 1)).flatMap fun i => (List.range (n + 1)).map fun j => (i, j)) = Ps
  have hin : ∀ p ∈ Ps, p.1 < n + 1 ∧ p.2 < n + 1 := by
    rw [← hP]
    intro p hp
    obtain ⟨i, hi, h⟩ := List.mem_flatMap.mp hp
    obtain ⟨j, hj, rfl⟩ := List.mem_map.mp h
    exact ⟨List.mem_range.mp hi, List.mem_range.mp hj⟩
  have hlen : Ps.length ≤ 16 := by
    rw [← hP, List.length_flatMap]
    simp only [List.length_map, List.length_range]
    have : n + 1 = 2 ∨ n + 1 = 3 ∨ n + 1 = 4 := by have := wz.n1; omega
    rcases this with h | h | h <;> rw [h] <;> decide
  refine em_seq (N1 := fun ρ om => ρ = [some (.zone n u m), some (.dat (rdD l)), some (.dat (rgD (n + 1))), none, none, some (.dat (.list (Ps.map fun p => prD (some p)))), none, none] ∧ om = []) (em_asg (El.ed (El.to (el_lc2 (tt1 := tYes) (js := [3]) (js1 := [4]) (l := List.range (n + 1)) (m := List.range (n + 1)) (enc := fun (i : Nat) => eI i) (enc1 := fun (i : Nat) => eI i) (fun i j => true) (fun i j => prD (some (i, j))) (sr_lstM (ev_var rfl)) (by rw [List.length_range]; have : (n + 1) * (n + 1) ≤ 4 * 4 := Nat.mul_le_mul (by omega) (by omega); omega) (by simp) (by simp) fun i hi => ⟨_, tg_name, sr_lstM (ev_var rfl), fun j hj => ⟨_, tg_name, et_yes, fun _ => ev_tup (ds := [.int i, .int j]) (ea_cons (ev_var rfl) (ea_cons (ev_var rfl) ea_nil)) (Nat.le_of_ble_eq_true rfl)⟩⟩) ?_)) (by simp [slots]) ⟨rfl, rfl⟩) ?_
  · rw [← hP, List.map_flatMap]
    refine congrArg (fun f => List.flatMap f (List.range (n + 1))) (funext fun i => ?_)
    rw [List.map_map, List.filter_eq_self.mpr (fun _ _ => rfl)]
    rfl
  rintro ρ om ⟨rfl, rfl⟩
  have told : ∀ {ρ : Rho} {t : TE}, Ev { G with dd := none } t ρ (.zone n u m) → Ed { G with dd := none } (SlX.tSl G.K t "own_told") ρ (matD m) := fun h => ev_told Z.nod h
  refine em_ret (ev_cb (ea_cons (El.ed (el_lcB (js := [6, 7]) (l := Ps) (enc := fun p => .dat (prD (some p))) (fun p => keptB l p.1 p.2 (ent m p.1 p.2) u) (sr_lstM (ev_var rfl)) (by omega) (by simp) fun p hp => ⟨_, tg_2, ev_call (ea_cons (ev_var rfl) (ea_cons (ev_var rfl) (ea_cons (ev_var rfl) (ea_cons (ev_ixT (ev_ixT (told (ev_var rfl)) (ev_var rfl) (at_mat wz.sq (hin p hp).1)) (ev_var rfl) (at_ent wz.sq (hin p hp).1 (hin p hp).2)) (ea_cons (ev_unit Z.nod (ev_var rfl)) ea_nil))))) ⟨l, p.1, p.2, _, u, rfl, ud, by have := (hin p hp).1; omega, by have := (hin p hp).2; omega, ⟨by omega, by omega⟩, rfl⟩⟩)) ea_nil) rc_all) ?_
  rw [List.all_map, ← hP]
  refine congrArg eB ?_
  unfold hasB
  rw [Bool.eq_iff_iff, List.all_eq_true, List.all_eq_true]
  constructor
  · intro h i hi
    rw [List.all_eq_true]
    intro j hj
    exact h (i, j) (List.mem_flatMap.mpr ⟨i, hi, List.mem_map.mpr ⟨j, hj, rfl⟩⟩)
  · intro h p hp
    obtain ⟨i, hi, hq⟩ := List.mem_flatMap.mp hp
    obtain ⟨j, hj, rfl⟩ := List.mem_map.mp hq
    have := h i hi
    rw [List.all_eq_true] at this
    exact this j hj
def R_whole_zone (es : List Ent) (y : Ent) : Prop := ∃ (n u : Nat), es = [eI n, eI u] ∧ 1 ≤ n ∧ n ≤ 3 ∧ 1 ≤ u ∧ u ≤ 64 ∧ y = .zone n u (wholeMat (n + 1))
theorem rep_flat {α : Type} (a : α) : ∀ k : Nat, (List.replicate k [a]).flatten = List.replicate k a
  | 0 => rfl
  | k + 1 => by rw [List.replicate_succ, List.flatten_cons, rep_flat a k]; rfl
theorem map_const {α : Type} (a : α) (k : Nat) : (List.range k).map (fun _ => a) = List.replicate k a := by
  rw [List.map_const', List.length_range]
theorem whole_short (n : Nat) : Short (wholeMat n) := fun r hr o ho x hx => by
  unfold wholeMat tab at hr
  obtain ⟨i, _, rfl⟩ := List.mem_map.mp hr
  obtain ⟨j, _, rfl⟩ := List.mem_map.mp ho
  cases hx
abbrev s_whole_zone : Stmt := (topS 46)
abbrev N_whole_zone : List Str := ["clocks", "unit"]
theorem sc_whole_zone : FnScope N_whole_zone ["clocks", "unit"] (defScope s_whole_zone) := ⟨rfl, rfl, rfl, by decide +kernel, rfl, by decide +kernel, by decide +kernel⟩
theorem ok_whole_zone {f : Addr} {fd : FuncData} (F : Fun G.K "whole_zone" "whole_zone" s_whole_zone f fd) (B : Bi mg) (Z : Zo G mg) (h_require_from : Has P w G.K mg base "require_from" 3 ["value", "least", "most"] (spE G 3 R_require_from)) (h_Zone : HasI P w G.K mg base "Zone" G.Z 6 ["self", "clocks", "unit", "bounds"] (spI G G.Z 3 R_zi)) : FnOk P w G.K mg base CX0 8 f fd ["clocks", "unit"] (spE G 2 R_whole_zone) := by
  refine F.ok sc_whole_zone (fun vs H Q E h => h.1) (fun cdv A outer s H vs Q E hr h => ⟨_, (pss_cons (ps_expr (pe_fn h_require_from hr (by decide) (pa_cons (pv 0) (pa_cons pe_int (pa_cons (pe_gi B.g_MOST_CLOCKS) pa_nil)))))
      (pss_cons (ps_expr (pe_fn h_require_from hr (by decide) (pa_cons (pv 1) (pa_cons pe_int (pa_cons (pe_gi B.g_MOST_UNIT) pa_nil)))))
      (pss_one (ps_ret (pe_mk h_Zone hr (by decide) (pa_cons (pv 0) (pa_cons (pv 1) (pa_cons (pe_op (Kv.op_repTK G.K) (pe_tup (pa_cons (pe_op (Kv.op_repTK G.K) (pe_tup (pa_cons pe_non pa_nil)) (pe_op op_add (pv 0) pe_int)) pa_nil)) (pe_op op_add (pv 0) pe_int)) pa_nil)))))))), ?_⟩)
  obtain ⟨_, S, es, y, dm, rl, hR, kk⟩ := h
  refine fn_run dm rl kk ?_
  clear kk rl dm
  obtain ⟨n, u, rfl, n1, n3, u1, u64, rfl⟩ := hR
  refine em_seq (N1 := fun ρ om => ρ = [some (eI n), some (eI u)] ∧ om = []) (em_drop (ev_call (ea_cons (ev_var rfl) (ea_cons ev_int (ea_cons ev_int ea_nil))) ⟨n, 1, 3, rfl, by omega, by omega, rfl⟩) ⟨rfl, rfl⟩) ?_
  rintro ρ om ⟨rfl, rfl⟩
  refine em_seq (N1 := fun ρ om => ρ = [some (eI n), some (eI u)] ∧ om = []) (em_drop (ev_call (ea_cons (ev_var rfl) (ea_cons ev_int (ea_cons ev_int ea_nil))) ⟨u, 1, 64, rfl, by omega, by omega, rfl⟩) ⟨rfl, rfl⟩) ?_
  rintro ρ om ⟨rfl, rfl⟩
  have row : ∀ {ρ : Rho}, ρ = [some (eI n), some (eI u)] → Ed { G with dd := none } (tOp (rRepT G.K) (tTup (tCons (tC .non) tNil)) (tOp (rI0 fun i j => .int (i + j)) (tVar 0) (tC (.int 1)))) ρ (rowD (List.replicate (n + 1) none)) := fun h => by
    subst h
    refine Ev.to (ev_op (ev_tup (ds := [.none]) (ea_cons ev_non ea_nil) (Nat.le_of_ble_eq_true rfl)) (Ev.to (ev_I0 (ev_var rfl) ev_int) (y := eI ((n + 1 : Nat) : Int)) rfl) (ro_repT (by simp) (Nat.le_of_ble_eq_true rfl) (by omega) (by omega))) ?_
    rw [rep_flat]
    unfold rowD
    rw [List.map_replicate]
    rfl
  refine em_ret (ev_mk (ea_cons (ev_var rfl) (ea_cons (ev_var rfl) (ea_cons (Ev.to (ev_op (ev_tup (ds := [rowD (List.replicate (n + 1) none)]) (ea_cons (row rfl) ea_nil) (Nat.le_of_ble_eq_true rfl)) (Ev.to (ev_I0 (ev_var rfl) ev_int) (y := eI ((n + 1 : Nat) : Int)) rfl) (ro_repT (by simp) (Nat.le_of_ble_eq_true rfl) (by omega) (by omega))) (y := .dat (matD (wholeMat (n + 1)))) ?_) ea_nil))) ⟨n, u, wholeMat (n + 1), _, rfl, ⟨n1, n3⟩, ⟨u1, u64⟩, sq_tab _ _, .inr ⟨rfl, whole_short _⟩, rfl⟩) rfl
  rw [rep_flat]
  unfold wholeMat tab matD
  rw [map_const, map_const, List.map_replicate]
theorem ptOf_zero (l : List (Int × Int)) (u : Int) : ptOf l u 0 = 0 := by
  unfold ptOf rdAt
  simp
def R_point_zone (es : List Ent) (y : Ent) : Prop := ∃ (u : Nat) (l : List (Int × Int)), es = [.dat (rdD l), eI u] ∧ 1 ≤ l.length ∧ l.length ≤ 3 ∧ 1 ≤ u ∧ u ≤ 64 ∧ (∀ p ∈ l, RdOk p ∧ (u : Int) % p.2 = 0) ∧ y = .zone l.length u (ptMat (l.length + 1) (ptOf l u))
abbrev s_point_zone : Stmt := (topS 47)
abbrev N_point_zone : List Str := ["readings", "unit", "is_long", "top", "bottom", "numbers", "one", "other"]
theorem sc_point_zone : FnScope N_point_zone ["readings", "unit"] (defScope s_point_zone) := ⟨rfl, rfl, rfl, by decide +kernel, rfl, by decide +kernel, by decide +kernel⟩
theorem ok_point_zone {f : Addr} {fd : FuncData} (F : Fun G.K "point_zone" "point_zone" s_point_zone f fd) (B : Bi mg)  (h_are_readings : Has P w G.K mg base "are_readings" 4 ["value", "clocks"] (spE G 2 R_are_readings)) (h_require_from : Has P w G.K mg base "require_from" 3 ["value", "least", "most"] (spE G 3 R_require_from)) (h_made_zone : Has P w G.K mg base "made_zone" 8 ["clocks", "unit", "rows"] (spE G 3 R_made_zone)) : FnOk P w G.K mg base CX0 9 f fd ["readings", "unit"] (spE G 2 R_point_zone) := by
  refine F.ok sc_point_zone (fun vs H Q E h => h.1) (fun cdv A outer s H vs Q E hr h => ⟨_, (pss_cons (ps_set (i := 2) sc_point_zone.nd rfl (Or.inl rfl) (pe_and (pe_callB (Kv.call_isiK G.K) (by rfl) B.isinstance (by decide +kernel) (pa_cons (pv 0) (pa_cons (pe_bltn (v := .ty "tuple") (u := .type "tuple") (by rfl) B.tuple (by decide +kernel) rfl) pa_nil))) (pe_one (pe_chain op_le op_le pe_int (pe_callB (Kv.call_lenK G.K) (by rfl) B.len (by decide +kernel) (pa_cons (pv 0) pa_nil)) (pe_gi B.g_MOST_CLOCKS)))))
      (pss_cons (ps_if (PW.pt (pw_or (pt_not (pt_val (pv 2))) (pw_or1 (pt_not (pt_val (pe_fn h_are_readings hr (by decide) (pa_cons (pv 0) (pa_cons (pe_callB (Kv.call_lenK G.K) (by rfl) B.len (by decide +kernel) (pa_cons (pv 0) pa_nil)) pa_nil)))))))) (pss_one ps_never) pss_nil)
      (pss_cons (ps_expr (pe_fn h_require_from hr (by decide) (pa_cons (pv 1) (pa_cons pe_int (pa_cons (pe_gi B.g_MOST_UNIT) pa_nil)))))
      (pss_cons (ps_if (pt_val (pe_callB (Kv.cr_anyK G.K) (by rfl) B.any (by decide +kernel) (pa_cons (pe_lc rfl sc_point_zone.nd (Kv.pi_tupK G.K (pv 0)) (blkOk_by (own := [("top", 3), ("bottom", 4)]) (N := N_point_zone) (sc := (defScope s_point_zone)) (by decide +kernel)) (fun _ _ _ _ _ => (Kv.pg_tupK G.K (n := 2) rfl (pgs_cons (pg_name (i := 3) sc_point_zone.nd rfl (Or.inl rfl)) (pgs_cons (pg_name (i := 4) sc_point_zone.nd rfl (Or.inl rfl)) pgs_nil)))) (fun _ _ _ _ _ => pts_nil) (fun _ _ _ _ _ => (pe_cmpR op_ne (pe_op op_mod (pv 1) (pv 4)) pe_int (nomark _)))) pa_nil))) (pss_one ps_never) pss_nil)
      (pss_cons (ps_set (i := 5) sc_point_zone.nd rfl (Or.inr rfl) (pe_op op_cat (pe_lst (pa_cons pe_int pa_nil)) (pe_lc rfl sc_point_zone.nd (Kv.pi_tupK G.K (pv 0)) (blkOk_by (own := [("top", 3), ("bottom", 4)]) (N := N_point_zone) (sc := (defScope s_point_zone)) (by decide +kernel)) (fun _ _ _ _ _ => (Kv.pg_tupK G.K (n := 2) rfl (pgs_cons (pg_name (i := 3) sc_point_zone.nd rfl (Or.inl rfl)) (pgs_cons (pg_name (i := 4) sc_point_zone.nd rfl (Or.inl rfl)) pgs_nil)))) (fun _ _ _ _ _ => pts_nil) (fun _ _ _ _ _ => (pe_op op_mul (pv 3) (pe_op op_fdiv (pv 1) (pv 4)))))))
      (pss_one (ps_ret (pe_fn h_made_zone hr (by decide) (pa_cons (pe_callB (Kv.call_lenK G.K) (by rfl) B.len (by decide +kernel) (pa_cons (pv 0) pa_nil)) (pa_cons (pv 1) (pa_cons (Kv.pe_tupleOfK G.K (by rfl) B.tuple (pe_lc rfl sc_point_zone.nd (Kv.pi_listK G.K (pv 5)) (blkOk_by (own := [("one", 6)]) (N := N_point_zone) (sc := (defScope s_point_zone)) (by decide +kernel)) (fun _ _ _ _ _ => (pg_name (i := 6) sc_point_zone.nd rfl (Or.inr rfl))) (fun _ _ _ _ _ => pts_nil) (fun _ _ _ _ _ => (Kv.pe_tupleOfK G.K (by rfl) B.tuple (pe_lc rfl sc_point_zone.nd (Kv.pi_listK G.K (pv 5)) (blkOk_by (own := [("other", 7)]) (N := N_point_zone) (sc := (relS { kind := PySem.ScopeKind.function, names := [ (PySem.Str.ofString ".0", PySem.NameKind.local), (PySem.Str.ofString "one", PySem.NameKind.cell), (PySem.Str.ofString "tuple", PySem.NameKind.globalImplicit), (PySem.Str.ofString "numbers", PySem.NameKind.free)], isGenerator := false, isCoroutine := false, more := [] : PySem.Scope } (defScope s_point_zone))) (by decide +kernel)) (fun _ _ _ _ _ => (pg_name (i := 7) sc_point_zone.nd rfl (Or.inl rfl))) (fun _ _ _ _ _ => pts_nil) (fun _ _ _ _ _ => (pe_op op_sub (pv 6) (pv 7)))))))) pa_nil))))))))))), ?_⟩)
  obtain ⟨_, S, es, y, dm, rl, hR, kk⟩ := h
  refine fn_run dm rl kk ?_
  clear kk rl dm
  obtain ⟨u, l, rfl, l1, l3, u1, u64, hs, rfl⟩ := hR
  have hl : ((l.map frD).length : Int) = (l.length : Int) := by rw [List.length_map]
  have fr2 : ∀ p ∈ l, 0 < p.2 ∧ p.2 ≤ 64 := fun p hp => (hs p hp).1.2.1
  refine em_seq (N1 := fun ρ om => ρ = [some (.dat (rdD l)), some (eI u), some (eB true), none, none, none, none, none] ∧ om = []) (em_asg (ev_andT (ev_isiT (ev_var rfl)) (Ev.to (ev_chain ev_int (ev_cb (ea_cons (ev_var rfl) ea_nil) rc_lenT) ro_B0 fun _ => ⟨ev_int, ro_B0⟩) ?_)) (by simp [slots]) ⟨rfl, rfl⟩) ?_
  · rw [hl, decide_eq_true (show (1 : Int) ≤ (l.length : Int) by omega), decide_eq_true (show (l.length : Int) ≤ 3 by omega)]
    rfl
  rintro ρ om ⟨rfl, rfl⟩
  refine em_seq (N1 := fun ρ om => ρ = [some (.dat (rdD l)), some (eI u), some (eB true), none, none, none, none, none] ∧ om = []) (em_gate (et_orF (et_notT (et_test (ev_var rfl))) (et_notT (et_test (ev_call (ea_cons (ev_var rfl) (ea_cons (Ev.to (ev_cb (ea_cons (ev_var rfl) ea_nil) rc_lenT) (congrArg eI hl)) ea_nil)) ⟨l, rfl, by omega, fun p hp => (hs p hp).1, rfl⟩)))) ⟨rfl, rfl⟩) ?_
  rintro ρ om ⟨rfl, rfl⟩
  refine em_seq (N1 := fun ρ om => ρ = [some (.dat (rdD l)), some (eI u), some (eB true), none, none, none, none, none] ∧ om = []) (em_drop (ev_call (ea_cons (ev_var rfl) (ea_cons ev_int (ea_cons ev_int ea_nil))) ⟨u, 1, 64, rfl, by omega, by omega, rfl⟩) ⟨rfl, rfl⟩) ?_
  rintro ρ om ⟨rfl, rfl⟩
  refine em_seq (N1 := fun ρ om => ρ = [some (.dat (rdD l)), some (eI u), some (eB true), none, none, none, none, none] ∧ om = []) (em_gate (Et.to (et_test (ev_cb (ea_cons (El.ed (el_lcB (js := [3, 4]) (l := l) (enc := fun p => .dat (frD p)) (fun _ => false) (sr_tupM (ev_var rfl)) (by omega) (by simp) fun p hp => ⟨_, tg_2, Ev.to (ev_neI (ev_I (ev_var rfl) (ev_var rfl) (fr2 p hp).1) ev_int) ?_⟩)) ea_nil) rc_any)) (by simp)) ⟨rfl, rfl⟩) ?_
  · rw [(hs p hp).2]
    rfl
  rintro ρ om ⟨rfl, rfl⟩
  refine em_seq (N1 := fun ρ om => ρ = [some (.dat (rdD l)), some (eI u), some (eB true), none, none, some (.dat (.list ((List.range (l.length + 1)).map fun k => .int (ptOf l u k)))), none, none] ∧ om = []) (em_asg (El.ed (El.to (el_cat (ds := [.int 0]) (el_lst (ds := [.int 0]) (ea_cons ev_int ea_nil) (Nat.le_of_ble_eq_true rfl)) (el_lc (js := [3, 4]) (l := l) (enc := fun p => .dat (frD p)) (fun p => .int (p.1 * ((u : Int) / p.2))) (sr_tupM (ev_var rfl)) (by omega) (by simp) fun p hp => ⟨_, tg_2, ev_I (ev_var rfl) (ev_I (ev_var rfl) (ev_var rfl) ⟨(fr2 p hp).1, by have := (fr2 p hp).2; omega⟩) ?_⟩) (by rw [List.length_map]; show 1 + l.length ≤ 100000; omega)) ?_)) (by simp [slots]) ⟨rfl, rfl⟩) ?_
  · have h0 : 0 ≤ (u : Int) / p.2 := Int.ediv_nonneg (by omega) (Int.le_of_lt (fr2 p hp).1)
    have h1 : (u : Int) / p.2 ≤ u := Int.ediv_le_self _ (by omega)
    exact .inr ⟨by omega, by omega⟩
  · refine List.ext_getElem? fun i => ?_
    rw [List.getElem?_map]
    cases i with
    | zero =>
      rw [List.getElem?_range (by omega)]
      show some (PyData.int 0) = some (PyData.int (ptOf l u 0))
      rw [ptOf_zero]
    | succ i =>
      show (l.map _)[i]? = _
      rw [List.getElem?_map]
      by_cases hi : i < l.length
      · rw [List.getElem?_eq_getElem hi, List.getElem?_range (by omega)]
        show some (PyData.int _) = some (PyData.int (ptOf l u (i + 1)))
        unfold ptOf rdAt
        rw [if_neg (by omega), Nat.add_sub_cancel, List.getD_eq_getElem?_getD, List.getElem?_eq_getElem hi]
        rfl
      · rw [List.getElem?_eq_none (by omega), List.getElem?_eq_none (by rw [List.length_range]; omega)]
        rfl
  rintro ρ om ⟨rfl, rfl⟩
  refine em_ret (ev_call (ea_cons (Ev.to (ev_cb (ea_cons (ev_var rfl) ea_nil) rc_lenT) (congrArg eI hl)) (ea_cons (ev_var rfl) (ea_cons (Ev.to (ev_tupleOf (.inl (El.ed (el_lc (js := [6]) (l := List.range (l.length + 1)) (enc := fun k => eI (ptOf l u k)) (fun i => rowD ((List.range (l.length + 1)).map fun j => some (ptOf l u i - ptOf l u j))) (sr_lstM (ev_var rfl)) (by rw [List.length_range]; omega) (by simp) fun i hi => ⟨_, tg_name, Ev.to (ev_tupleOf (.inl (El.ed (el_lc (js := [7]) (l := List.range (l.length + 1)) (enc := fun k => eI (ptOf l u k)) (fun j => .int (ptOf l u i - ptOf l u j)) (sr_lstM (ev_var rfl)) (by rw [List.length_range]; omega) (by simp) fun j hj => ⟨_, tg_name, ev_I0 (ev_var rfl) (ev_var rfl)⟩)))) ?_⟩)))) (y := .dat (matD (ptMat (l.length + 1) (ptOf l u)))) ?_) ea_nil))) ⟨l.length, u, _, rfl, ⟨l1, l3, u1, u64, sq_tab _ _⟩, rfl⟩) rfl
  · unfold rowD
    rw [List.map_map]
    rfl
  · unfold matD ptMat tab
    rw [List.map_map]
    rfl
end
end Ek
end

section
set_option Elab.async false
set_option linter.all false
set_option maxRecDepth 100000
set_option maxHeartbeats 4000000
namespace Ek
open K18
/-! ### readings in lowest form -/
theorem lowF_g {t : Int} {u : Nat} (hu : 0 < u) : ∃ (g a : Int) (b : Nat), 0 < g ∧ t = a * g ∧ (u : Int) = b * g ∧ 0 < b ∧ lowF t u = (a, (b : Int)) ∧ Nat.gcd a.natAbs b = 1 := by
  have hg : 0 < Nat.gcd t.natAbs u := Nat.gcd_pos_of_pos_right _ hu
  obtain ⟨b, hb⟩ := Nat.gcd_dvd_right t.natAbs u
  have hta : ((Nat.gcd t.natAbs u : Nat) : Int) ∣ t := Int.natAbs_dvd_natAbs.mp (by rw [Int.natAbs_natCast]; exact Nat.gcd_dvd_left t.natAbs u)
  obtain ⟨a, ha⟩ := hta
  have hgz : (0 : Int) < ((Nat.gcd t.natAbs u : Nat) : Int) := by omega
  have hu2 : (u : Int) = (b : Int) * ((Nat.gcd t.natAbs u : Nat) : Int) := by
    rw [← Int.natCast_mul, Nat.mul_comm b, ← hb]
  have hb0 : 0 < b := by
    cases b with
    | zero => rw [Nat.mul_zero] at hb; omega
    | succ b => exact Nat.succ_pos b
  have e1 : t / ((Nat.gcd t.natAbs u : Nat) : Int) = a := by
    exact Int.ediv_eq_of_eq_mul_right (Int.ne_of_gt hgz) ha
  have e2 : (u : Int) / ((Nat.gcd t.natAbs u : Nat) : Int) = (b : Int) := by
    exact Int.ediv_eq_of_eq_mul_left (Int.ne_of_gt hgz) hu2
  refine ⟨_, a, b, hgz, by rw [Int.mul_comm]; exact ha, hu2, hb0, by unfold lowF; rw [e1, e2], ?_⟩
  have hna : t.natAbs = Nat.gcd t.natAbs u * a.natAbs := by
    have := congrArg Int.natAbs ha
    rw [Int.natAbs_mul, Int.natAbs_natCast] at this
    exact this
  have hgg : Nat.gcd t.natAbs u * Nat.gcd a.natAbs b = Nat.gcd t.natAbs u * 1 := by
    rw [← Nat.gcd_mul_left, ← hna, ← hb, Nat.mul_one]
  exact Nat.eq_of_mul_eq_mul_left hg hgg
/-- a number t of 1/u, as it is read -/
structure LowOk (t : Int) (u : Nat) (p : Int × Int) : Prop where
  pos : 0 < p.2
  le : p.2 ≤ u
  gcd : Nat.gcd p.1.natAbs p.2.natAbs = 1
  cross : t * p.2 = p.1 * u
  back : p.1 * ((u : Int) / p.2) = t
  dvd : (u : Int) % p.2 = 0
  nn : 0 ≤ t → 0 ≤ p.1 ∧ p.1 ≤ t
theorem lowF_ok (t : Int) {u : Nat} (hu : 0 < u) : LowOk t u (lowF t u) := by
  obtain ⟨g, a, b, hg, ht, hub, hb, e, hgcd⟩ := lowF_g (t := t) hu
  rw [e]
  have hbz : (0 : Int) < (b : Int) := by omega
  have hdiv : (u : Int) / (b : Int) = g := by
    rw [hub, Int.mul_comm]
    exact Int.mul_ediv_cancel _ (Int.ne_of_gt hbz)
  refine ⟨hbz, ?_, by simpa using hgcd, ?_, ?_, ?_, fun h => ?_⟩
  · rw [hub]
    have : (b : Int) * 1 ≤ b * g := Int.mul_le_mul_of_nonneg_left (by omega) (by omega)
    simpa using this
  · show t * (b : Int) = a * (u : Int)
    rw [ht, hub, Int.mul_assoc, Int.mul_comm g]
  · show a * ((u : Int) / (b : Int)) = t
    rw [hdiv, ht]
  · show (u : Int) % (b : Int) = 0
    rw [hub, Int.mul_comm]
    exact Int.mul_emod_left _ _
  · have ha : 0 ≤ a := by
      rw [ht] at h
      by_cases q : 0 ≤ a
      · exact q
      · have h2 := Int.mul_neg_of_neg_of_pos (show a < 0 by omega) hg
        omega
    refine ⟨ha, ?_⟩
    show a ≤ t
    rw [ht]
    have : a * 1 ≤ a * g := Int.mul_le_mul_of_nonneg_left (by omega) ha
    simpa using this
theorem rdOf_len (n u : Nat) (P : Nat → Int) : (rdOf n u P).length = n - 1 := by
  unfold rdOf
  rw [List.length_map, List.length_range]
theorem rdOf_at {n u : Nat} {P : Nat → Int} (h0 : P 0 = 0) (hu : 0 < u) {k : Nat} (hk : k < n) : ∃ p, rdAt (rdOf n u P) k = p ∧ 0 < p.2 ∧ P k * p.2 = p.1 * u ∧ p.1 * ((u : Int) / p.2) = P k := by
  refine ⟨_, rfl, ?_⟩
  unfold rdAt
  cases k with
  | zero =>
    rw [if_pos rfl, h0]
    exact ⟨by decide, by simp, by simp⟩
  | succ k =>
    rw [if_neg (by omega), Nat.add_sub_cancel]
    have e : (rdOf n u P).getD k (0, 1) = lowF (P (k + 1)) u := by
      unfold rdOf
      rw [List.getD_eq_getElem?_getD, List.getElem?_map, List.getElem?_range (by omega)]
      rfl
    rw [e]
    have := lowF_ok (P (k + 1)) hu
    exact ⟨this.pos, this.cross, this.back⟩
theorem kept_iff {n u : Nat} {P : Nat → Int} (h0 : P 0 = 0) (hu : 0 < u) {i j : Nat} (hi : i < n) (hj : j < n) (x : OI) : keptB (rdOf n u P) i j x u = true ↔ Le (some (P i - P j)) x := by
  cases x with
  | none => simp [keptB, Le]
  | some x =>
    obtain ⟨p, hp, p1, p2, _⟩ := rdOf_at (n := n) h0 hu hi
    obtain ⟨q, hq, q1, q2, _⟩ := rdOf_at (n := n) h0 hu hj
    unfold keptB
    rw [hp, hq]
    show decide (_ ≤ _) = true ↔ P i - P j ≤ x
    rw [decide_eq_true_eq]
    have hbd : 0 < p.2 * q.2 := Int.mul_pos p1 q1
    have e1 : (p.1 * q.2 - q.1 * p.2) * (u : Int) = (P i - P j) * (p.2 * q.2) := by
      rw [Int.sub_mul, Int.sub_mul, Int.mul_right_comm, ← p2, Int.mul_right_comm q.1, ← q2, Int.mul_assoc, Int.mul_assoc, Int.mul_comm q.2 p.2]
    rw [e1, Int.mul_assoc x]
    exact ⟨fun h => Int.le_of_mul_le_mul_right h hbd, fun h => Int.mul_le_mul_of_nonneg_right h (Int.le_of_lt hbd)⟩
theorem has_iff {n u : Nat} {P : Nat → Int} (h0 : P 0 = 0) (hu : 0 < u) (m : Mat) : hasB n u m (rdOf n u P) = true ↔ Keeps n m P := by
  unfold hasB Keeps
  rw [List.all_eq_true]
  constructor
  · intro h i j hi hj
    have := h i (List.mem_range.mpr hi)
    rw [List.all_eq_true] at this
    exact (kept_iff h0 hu hi hj _).mp (this j (List.mem_range.mpr hj))
  · intro h i hi
    rw [List.all_eq_true]
    intro j hj
    exact (kept_iff h0 hu (List.mem_range.mp hi) (List.mem_range.mp hj) _).mpr (h i j (List.mem_range.mp hi) (List.mem_range.mp hj))
theorem rdOf_rd {n u : Nat} {P : Nat → Int} (hp : Pt n P) (hu : 0 < u) (h64 : u ≤ 64) : ∀ p ∈ rdOf n u P, 0 ≤ p.1 ∧ (0 < p.2 ∧ p.2 ≤ 64) ∧ Nat.gcd p.1.natAbs p.2.natAbs = 1 := fun p hm => by
  unfold rdOf at hm
  obtain ⟨k, hk, rfl⟩ := List.mem_map.mp hm
  have hk := List.mem_range.mp hk
  have := lowF_ok (P (k + 1)) hu
  exact ⟨(this.nn (hp.pos _ (by omega))).1, ⟨this.pos, by have := this.le; omega⟩, this.gcd⟩
theorem ptOf_rdOf {n u : Nat} {P : Nat → Int} (h0 : P 0 = 0) (hu : 0 < u) : ptMat n (ptOf (rdOf n u P) u) = ptMat n P := by
  unfold ptMat
  refine tab_ext fun i j hi hj => ?_
  obtain ⟨p, hp, _, _, p3⟩ := rdOf_at (n := n) h0 hu hi
  obtain ⟨q, hq, _, _, q3⟩ := rdOf_at (n := n) h0 hu hj
  unfold ptOf
  rw [hp, hq, p3, q3]
theorem rdOf_congr {n u : Nat} {P R : Nat → Int} (h : ∀ k, k < n → P k = R k) : rdOf n u P = rdOf n u R := by
  unfold rdOf
  refine List.map_congr_left fun k hk => ?_
  have hk := List.mem_range.mp hk
  rw [h (k + 1) (by omega)]
theorem least_ptMat {n : Nat} {P : Nat → Int} (h0 : P 0 = 0) {k : Nat} (hk : k < n) : leastP (ptMat n P) k = P k := by
  unfold leastP ptMat
  rw [ent_tab (by omega) hk, h0]
  simp
theorem edge_pt {n : Nat} {P : Nat → Int} (p : Pt n P) {i j : Nat} (hi : i < n) (hj : j < n) : ∃ f, closedForm (withBound (ptMat n P) j i (-(P i - P j))) = some f ∧ ∀ k, k < n → leastP f k = P k := by
  have sq : Sq n (ptMat n P) := sq_tab _ _
  have hn : 0 < n := by omega
  obtain ⟨_, cl, _, _⟩ := closedForm_some sq (closedForm_pt p)
  have e : ent (ptMat n P) i j = some (P i - P j) := by
    unfold ptMat
    rw [ent_tab hi hj]
  obtain ⟨f, hf⟩ := withBound_there sq cl (fun k hk => by
    unfold ptMat
    rw [ent_tab hn hk, p.zero]
    show 0 - P k ≤ 0
    have := p.pos k hk
    omega) hi hj (w := -(P i - P j)) (by
    rw [e]
    show (0 : Int) ≤ _ + _
    omega)
  obtain ⟨q1, q2, _⟩ := pointWith_pt sq hi hj hf hn
  exact ⟨f, hf, pt_only hn p.zero q1.zero q2⟩
theorem low_zero {u : Nat} (hu : 0 < u) : lowF 0 u = (0, 1) := by
  unfold lowF
  simp
  exact Int.ediv_self (by omega)
theorem whole_rd {n u : Nat} (hn : 0 < n) (hu : 0 < u) {w : Mat} (h : ∀ i, i < n → leastP w i = 0) : rdOf n u (leastP w) = List.replicate (n - 1) (0, 1) := by
  unfold rdOf
  rw [← List.length_range (n := n - 1), ← List.map_const', List.length_range]
  refine List.map_congr_left fun k hk => ?_
  have hk := List.mem_range.mp hk
  rw [h (k + 1) (by omega), low_zero hu]
theorem whole_keeps (n : Nat) (P : Nat → Int) : Keeps n (wholeMat n) P := fun i j hi hj => by
  unfold wholeMat
  rw [ent_tab hi hj]
  trivial
end Ek
end

section
set_option Elab.async false
set_option linter.all false
set_option maxRecDepth 100000
set_option maxHeartbeats 4000000
namespace Ek
open PySem PySem.Spec PyProof.Rows L2 K18
open Evl (Ex ex_rd ex_l ex_t fresh_back sz_of sz_lt)
/-! ### the dice -/
def spDice (G : Gd) : Sp := fun vs H Q _ => vs.length = 2 ∧ ∃ (S : List Addr) (ns : List Int) (spot : Nat), Dom S H ∧ RepL { G with dd := none } (vw S H) vs [.dat (.list (ns.map .int)), eI spot] ∧ ∀ p x y z H', H p = none → Ex H H' → H' p = some (.lst [.int x, .int y, .int z]) → Q (.ref p) H'
theorem ix_d {K : PySem.W.Frag} {σ : L2.St} {H : Hp} {Q : VK} {d : Addr} {xs : List V} {i : Int} {z : V} (h0 : σ[0]? = some (some (.ref d))) (h : H d = some (.lst xs)) (hz : atI xs i = some z) (q : Q z H) : tOp (rIxL K) (tVar 0) (tC (.int i)) σ H Q := ⟨_, h0, d, xs, i, z, rfl, rfl, .inl (.inl h), hz, q⟩
theorem if_yes {c : Bool} {A B : Prop} (hc : c = true) (h : A) : if c = true then A else B := by
  rw [if_pos hc]
  exact h
theorem if_no {c : Bool} {A B : Prop} (hc : c = false) (h : B) : if c = true then A else B := by
  rw [hc, if_neg Bool.false_ne_true]
  exact h
section
variable {P : Program} {w : World} {mg : Str → Option Value} {base : Heap} {G : Gd}
abbrev s__law_dice : Stmt := (topS 49)
abbrev N__law_dice : List Str := ["_law_script", "_law_spot", "_law_cell", "_law_left"]
theorem sc__law_dice : FnScope N__law_dice ["_law_script", "_law_spot"] (defScope s__law_dice) := ⟨rfl, rfl, rfl, by decide +kernel, rfl, by decide +kernel, by decide +kernel⟩
theorem ok__law_dice {f : Addr} {fd : FuncData} (F : Fun G.K "_law_dice" "_law_dice" s__law_dice f fd) (B : Bi mg)   : FnOk P w G.K mg base CX0 1 f fd ["_law_script", "_law_spot"] (spDice G) := by
  refine F.ok sc__law_dice (fun vs H Q E h => h.1) (fun cdv A outer s H vs Q E hr h => ⟨_, (pss_cons (ps_set (i := 2) sc__law_dice.nd rfl (Or.inl rfl) (pe_ifExp (pt_cmpR op_lt (pv 1) (pe_callB (Kv.call_lenK G.K) (by rfl) B.len (by decide +kernel) (pa_cons (pv 0) pa_nil)) (nomark _)) (pe_callTy call_int1 (by rfl) B.int (by decide +kernel) (pa_cons (pe_ix (Kv.ix_listK G.K) (pv 0) (pv 1) (fun _ _ => rfl)) pa_nil)) (pe_op op_add (pe_op op_mul pe_int (pv 1)) pe_int)))
      (pss_cons (ps_set (i := 3) sc__law_dice.nd rfl (Or.inl rfl) (pe_op op_mod (pe_callB (call_max2 rfl) (by rfl) B.max (by decide +kernel) (pa_cons pe_int (pa_cons (pe_op op_sub (pe_callB call_abs (by rfl) B.abs (by decide +kernel) (pa_cons (pv 2) pa_nil)) (pe_op op_pow pe_int pe_int)) pa_nil))) (pe_op op_mulW (pe_op op_pow pe_int pe_int) (pe_op op_pow pe_int pe_int))))
      (pss_one (ps_ret (pe_lst (pa_cons (pv 3) (pa_cons (pe_op op_add (pe_op op_add (pe_op op_add (pe_op op_mul (pe_op op_mod (pe_callB call_abs (by rfl) B.abs (by decide +kernel) (pa_cons (pv 2) pa_nil)) pe_int) pe_int) (pe_op op_mul pe_int (pv 1))) (pe_op op_mul pe_int (pe_callTy call_int1 (by rfl) B.int (by decide +kernel) (pa_cons (pe_cmpR op_lt (pv 2) pe_int (nomark _)) pa_nil)))) pe_int) (pa_cons pe_int pa_nil)))))))), ?_⟩)
  obtain ⟨_, S, ns, spot, dm, rl, kk⟩ := h
  have E0' := env_start (N := N__law_dice) dm rl
  refine ev_if (x := eI (if spot < ns.length then ns.getD spot 0 else 71 * spot + 43)) (et_test (ev_B0 (ev_var rfl) (ev_cb (ea_cons (ev_var rfl) ea_nil) rc_lenL))) (fun zz => ?_) (fun zz => ?_) S _ H E0' _ fun v1 H1 x1 r1 => ?_
  · have z1 := of_decide_eq_true zz
    rw [List.length_map] at z1
    have hlt : spot < ns.length := by omega
    rw [if_pos hlt]
    exact ev_cb (ea_cons (ev_ixL (ev_var rfl) (ev_var rfl) (at_map 0 hlt)) ea_nil) rc_int
  · have z1 := of_decide_eq_false zz
    rw [List.length_map] at z1
    rw [if_neg (by omega)]
    exact ev_I0 (ev_I ev_int (ev_var rfl) (.inl ⟨by decide, by decide⟩)) ev_int
  generalize (if spot < ns.length then ns.getD spot 0 else 71 * (spot : Int) + 43) = c at r1
  have E1 := (E0'.mono x1).set 2 r1
  refine ev_I (ev_cb (ea_cons ev_int (ea_cons (ev_I0 (ev_cb (ea_cons (ev_var rfl) ea_nil) rc_abs) (ev_I ev_int ev_int ⟨by decide, by decide, by decide⟩)) ea_nil)) rc_max2) (ev_I (ev_I ev_int ev_int ⟨by decide, by decide, by decide⟩) (ev_I ev_int ev_int ⟨by decide, by decide, by decide⟩) (wide_mul (a := 200) (b := 200) (by decide) (by decide) (by decide) (by decide) (by decide))) (by decide) S _ H1 E1 _ fun v2 H2 x2 r2 => ?_
  have E2 := (E1.mono x2).set 3 r2
  refine el_lst (ds := [.int _, .int _, .int 0]) (ea_cons (ev_var rfl) (ea_cons (ev_I0 (ev_I0 (ev_I0 (ev_I (ev_I (ev_cb (ea_cons (ev_var rfl) ea_nil) rc_abs) ev_int (by show (0 : Int) < 1152921504606846869; decide)) ev_int (.inr ⟨by decide, by decide⟩)) (ev_I ev_int (ev_var rfl) (.inl ⟨by decide, by decide⟩))) (ev_I ev_int (ev_cb (ea_cons (ev_B0 (ev_var rfl) ev_int) ea_nil) rc_intB) (.inl ⟨by decide, by decide⟩))) ev_int) (ea_cons ev_int ea_nil))) (Nat.le_of_ble_eq_true rfl) S _ H2 E2 _ fun p xs H3 hp x3 hx hd => ?_
  have hxs := ints_of [_, _, 0] hd
  subst hxs
  exact kk p _ _ 0 H3 (fresh_back (x1.trans x2) hp) ((x1.trans x2).trans x3) hx
def R_roll (es : List Ent) (P : Ent → Prop) : Prop := ∃ k : Nat, es = [.dice, eI k] ∧ 0 < k ∧ k < 1073741824 ∧ ∀ r : Nat, r < k → P (eI r)
abbrev s__law_roll : Stmt := (topS 50)
abbrev N__law_roll : List Str := ["_law_dice_here", "_law_most", "_law_found", "_law_one", "_law_two"]
theorem sc__law_roll : FnScope N__law_roll ["_law_dice_here", "_law_most"] (defScope s__law_roll) := ⟨rfl, rfl, rfl, by decide +kernel, rfl, by decide +kernel, by decide +kernel⟩
theorem ok__law_roll {f : Addr} {fd : FuncData} (F : Fun G.K "_law_roll" "_law_roll" s__law_roll f fd) (B : Bi mg)   : FnOk P w G.K mg base CX0 1 f fd ["_law_dice_here", "_law_most"] (spR G 2 R_roll) := by
  refine F.ok sc__law_roll (fun vs H Q E h => h.1) (fun cdv A outer s H vs Q E hr h => ⟨_, (pss_cons (ps_if (pt_cmpR op_gt (pe_ix (Kv.ix_listK G.K) (pv 0) pe_int (fun _ _ => rfl)) pe_int (nomark _)) (pss_cons (ps_set (i := 2) sc__law_roll.nd rfl (Or.inl rfl) (pe_op op_mod (pe_callTy call_int1 (by rfl) B.int (by decide +kernel) (pa_cons (pe_ix (Kv.ix_listK G.K) (pv 0) pe_int (fun _ _ => rfl)) pa_nil)) (pv 1)))
      (pss_cons (ps_asg (pe_op op_fdiv (pe_ix (Kv.ix_listK G.K) (pv 0) pe_int (fun _ _ => rfl)) (pv 1)) (pg_sub (pv 0) pe_int set_list))
      (pss_one (ps_ret (pv 2))))) pss_nil)
      (pss_cons (ps_asg (pe_op op_add (pe_ix (Kv.ix_listK G.K) (pv 0) pe_int (fun _ _ => rfl)) pe_int) (pg_sub (pv 0) pe_int set_list))
      (pss_cons (ps_set (i := 3) sc__law_roll.nd rfl (Or.inl rfl) (pe_op op_mod (pe_callTy call_int1 (by rfl) B.int (by decide +kernel) (pa_cons (pe_op op_add (pe_ix (Kv.ix_listK G.K) (pv 0) pe_int (fun _ _ => rfl)) (pe_op op_mul pe_int (pe_ix (Kv.ix_listK G.K) (pv 0) pe_int (fun _ _ => rfl)))) pa_nil)) pe_int))
      (pss_cons (ps_set (i := 4) sc__law_roll.nd rfl (Or.inl rfl) (pe_op op_add (pe_op op_mul (pe_op op_mod (pe_callTy call_int1 (by rfl) B.int (by decide +kernel) (pa_cons (pe_op op_add (pe_op op_mul (pv 3) (pv 3)) (pe_op op_mul pe_int (pe_ix (Kv.ix_listK G.K) (pv 0) pe_int (fun _ _ => rfl)))) pa_nil)) pe_int) pe_int) (pv 3)))
      (pss_one (ps_ret (pe_op op_mod (pe_callTy call_int1 (by rfl) B.int (by decide +kernel) (pa_cons (pe_op op_fdiv (pv 4) pe_int) pa_nil)) (pv 1)))))))), ?_⟩)
  obtain ⟨_, d, S, es, Pp, hd, ⟨x, y, z, da⟩, dm, rl, ⟨k, rfl, h0, h1, hP⟩, kk⟩ := h
  obtain ⟨v, v', rfl, ⟨a, ea, rfl⟩, r2⟩ := repL2 rl
  cases (Option.some.inj ea)
  cases dp_int r2
  have fin : ∀ (i : Int) (H' : Hp), (∀ a o, a ≠ d → H a = some o → H' a = some o) → DiceAt H' d → Q (.int (i % (k : Int))) H' := fun i H' e da' => by
    have hk : (0 : Int) < (k : Int) := by omega
    obtain ⟨r, hr⟩ := Int.eq_ofNat_of_zero_le (Int.emod_nonneg i (Int.ne_of_gt hk))
    have hlt := Int.emod_lt_of_pos i hk
    rw [hr] at hlt ⊢
    exact kk (.int r) H' (eI r) (hP r (by omega)) ⟨fun a o n h => e a o (fun z => n (by rw [z])) h, fun d' hd' => by cases hd'; exact da'⟩ (.int _)
  refine ix_d rfl da rfl ⟨_, _, rfl, rfl, _, rfl, ?_⟩
  by_cases c : (0 : Int) < x
  · refine if_yes (decide_eq_true c) ?_
    refine ix_d rfl da rfl ?_
    refine .inl ⟨_, rfl, _, rfl, _, _, rfl, rfl, (by show (0 : Int) < k; omega), ?_⟩
    refine ix_d rfl da rfl ⟨_, rfl, _, _, rfl, rfl, ⟨by omega, by omega⟩, ?_⟩
    refine ⟨_, rfl, d, _, 0, 0, rfl, rfl, da, rfl, ?_⟩
    refine ⟨_, rfl, fin _ _ (fun a o n h => by rw [upd_ne n]; exact h) ⟨_, y, z, upd_same⟩⟩
  · refine if_no (decide_eq_false c) ?_
    refine ix_d rfl da rfl ⟨_, _, rfl, rfl, ?_⟩
    refine ⟨_, rfl, d, _, 2, 2, rfl, rfl, da, rfl, ?_⟩
    have d1 : upd H d (.lst (([.int x, .int y, .int z] : List V).set 2 (.int (z + 1)))) d = some (.lst [.int x, .int y, .int (z + 1)]) := upd_same
    refine ix_d rfl d1 rfl ?_
    refine ix_d rfl d1 rfl ⟨_, _, rfl, rfl, .inl ⟨by decide, by decide⟩, _, _, rfl, rfl, ?_⟩
    refine .inl ⟨_, rfl, _, _, rfl, rfl, (by show (0 : Int) < 2305843009213693421; decide), ?_⟩
    generalize hone : (y + 71828177 * (z + 1)) % 2305843009213693421 = one
    have o1 : 0 ≤ one := by rw [← hone]; exact Int.emod_nonneg _ (by decide)
    have o2 : one < 2305843009213693421 := by rw [← hone]; exact Int.emod_lt_of_pos _ (by decide)
    refine ⟨_, rfl, _, rfl, _, _, rfl, rfl, .inl ⟨by omega, by omega⟩, ?_⟩
    refine ix_d rfl d1 rfl ⟨_, _, rfl, rfl, .inl ⟨by decide, by decide⟩, _, _, rfl, rfl, ?_⟩
    refine .inl ⟨_, rfl, _, _, rfl, rfl, (by show (0 : Int) < 2305843009213693381; decide), _, _, rfl, rfl, .inr ⟨by decide, by decide⟩, _, rfl, _, _, rfl, rfl, ?_⟩
    refine ⟨_, rfl, _, _, rfl, rfl, ⟨by decide, by decide⟩, ?_⟩
    refine .inl ⟨_, rfl, _, rfl, _, _, rfl, rfl, (by show (0 : Int) < k; omega), ?_⟩
    exact fin _ _ (fun a o n h => by rw [upd_ne n]; exact h) ⟨_, _, _, d1⟩
end
end Ek
end

section
set_option Elab.async false
set_option linter.all false
set_option maxRecDepth 100000
set_option maxHeartbeats 4000000
namespace Ek
open PySem PySem.Spec PyProof.Rows L2 K18
open Evl (Ex ex_rd ex_l ex_t fresh_back sz_of sz_lt)
theorem ro_ixL {G : Gd} {ds : List PyData} {i : Int} {d : PyData} (h : atI ds i = some d) : Ro G (rIxL G.K) (.dat (.list ds)) (.dat (.int i)) (.dat d) := fun S H v w dm h1 h2 Q q => by
  obtain ⟨a, xs, rfl, hs, hd⟩ := lst_of h1
  cases dp_int h2
  obtain ⟨j, e1, e2, _⟩ := atI_get h
  obtain ⟨z, e3, r⟩ := dpAll_get' j hd e2
  refine ⟨a, xs, i, z, rfl, rfl, hs, ?_, q z H (Ex.refl H) r⟩
  unfold atI at h ⊢
  rw [dpAll_len hd]
  cases e : ixN ds.length i with
  | none => rw [e] at h; cases h
  | some k =>
    obtain ⟨e4, _⟩ := ixN_seq e
    rw [e1] at e4
    cases e4
    exact e3
theorem all_ex {α : Type} {f : α → PyData} {Pb : α → Prop} : ∀ {ds : List PyData}, (∀ d ∈ ds, ∃ b, d = f b ∧ Pb b) → ∃ bs : List α, ds = bs.map f ∧ ∀ b ∈ bs, Pb b
  | [], _ => ⟨[], rfl, by simp⟩
  | d :: ds, h => by
    obtain ⟨b, rfl, hb⟩ := h d List.mem_cons_self
    obtain ⟨bs, rfl, hbs⟩ := all_ex (ds := ds) fun x hx => h x (List.mem_cons_of_mem _ hx)
    exact ⟨b :: bs, rfl, fun x hx => by
      rcases List.mem_cons.mp hx with rfl | hx
      · exact hb
      · exact hbs x hx⟩
theorem all2_ex {α β : Type} {f : α → PyData} {Pb : α → Prop} {l : List β} {ds : List PyData} (h : All2 (fun _ d => ∃ b, d = f b ∧ Pb b) l ds) : ∃ bs : List α, ds = bs.map f ∧ bs.length = l.length ∧ ∀ b ∈ bs, Pb b := by
  obtain ⟨bs, rfl, hb⟩ := all_ex (f := f) (Pb := Pb) (ds := ds) fun d hd => by
    obtain ⟨i, hi⟩ := List.getElem?_of_mem hd
    have hlt : i < l.length := by rw [← h.1]; exact (List.getElem?_eq_some_iff.mp hi).1
    exact h.2 i l[i] d (List.getElem?_eq_getElem hlt) hi
  exact ⟨bs, rfl, by rw [← h.1, List.length_map], hb⟩
def BdO (B : Int) (o : OI) : Prop := ∀ x, o = some x → -B ≤ x ∧ x ≤ B
def BdR (B : Int) (r : K18.Row) : Prop := ∀ o ∈ r, BdO B o
def BdM (B : Int) (m : Mat) : Prop := ∀ r ∈ m, BdR B r
theorem BdO.mono {B C : Int} {o : OI} (h : BdO B o) (k : B ≤ C) : BdO C o := fun x e => ⟨by have := h x e; omega, by have := h x e; omega⟩
theorem BdM.mono {B C : Int} {m : Mat} (h : BdM B m) (k : B ≤ C) : BdM C m := fun r hr o ho => (h r hr o ho).mono k
theorem BdM.short {B : Int} {m : Mat} (h : BdM B m) (k : B ≤ 1000000 := by decide) : Short m := fun r hr o ho x e => by
  have := h r hr o ho x e
  constructor
  · have : (-10 ^ 60 : Int) < -1000000 := by decide
    omega
  · have : (1000000 : Int) < 10 ^ 60 := by decide
    omega
section
variable {P : Program} {w : World} {mg : Str → Option Value} {base : Heap} {G : Gd}
def R_pick (es : List Ent) (P : Ent → Prop) : Prop := ∃ ds : List PyData, es = [.dice, .dat (.list ds)] ∧ 0 < ds.length ∧ ds.length ≤ 1000 ∧ ∀ d ∈ ds, P (.dat d)
abbrev s__law_pick : Stmt := (topS 51)
abbrev N__law_pick : List Str := ["_law_dice_here", "_law_items"]
theorem sc__law_pick : FnScope N__law_pick ["_law_dice_here", "_law_items"] (defScope s__law_pick) := ⟨rfl, rfl, rfl, by decide +kernel, rfl, by decide +kernel, by decide +kernel⟩
theorem ok__law_pick {f : Addr} {fd : FuncData} (F : Fun G.K "_law_pick" "_law_pick" s__law_pick f fd) (B : Bi mg)  (h__law_roll : Has P w G.K mg base "_law_roll" 1 ["_law_dice_here", "_law_most"] (spR G 2 R_roll)) : FnOk P w G.K mg base CX0 2 f fd ["_law_dice_here", "_law_items"] (spR G 2 R_pick) := by
  refine F.ok sc__law_pick (fun vs H Q E h => h.1) (fun cdv A outer s H vs Q E hr h => ⟨_, (pss_one (ps_ret (pe_ix (Kv.ix_listK G.K) (pv 1) (pe_fn h__law_roll hr (by decide) (pa_cons (pv 0) (pa_cons (pe_callB (Kv.call_lenK G.K) (by rfl) B.len (by decide +kernel) (pa_cons (pv 1) pa_nil)) pa_nil))) (fun _ _ => rfl)))), ?_⟩)
  obtain ⟨_, d, S, es, Pp, hd, da, dm, rl, ⟨ds, rfl, h0, h1, hP⟩, kk⟩ := h
  refine fn_runR hd da dm rl kk (em_retR rfl (er_op (R := Pp) (er_ev (ev_var rfl)) (er_call (P := fun e => ∃ r : Nat, e = eI r ∧ r < ds.length) (era_cons (er_ev (ev_var rfl)) (era_cons (er_ev (ev_cb (ea_cons (ev_var rfl) ea_nil) rc_lenL)) era_nil)) ?_) ?_) fun e h => h)
  · rintro es ⟨e, r, rfl, rfl, e2, r2, rfl, rfl, rfl⟩
    exact ⟨rfl, ds.length, rfl, h0, by omega, fun r hr => ⟨r, rfl, hr⟩⟩
  · rintro x y rfl ⟨r, rfl, hr⟩
    exact ⟨.dat ds[r], ro_ixL (atI_nat (List.getElem?_eq_getElem hr)), hP _ (List.getElem_mem hr)⟩
def R_zbound (es : List Ent) (P : Ent → Prop) : Prop := ∃ u : Nat, es = [.dice, eI u] ∧ 1 ≤ u ∧ u ≤ 64 ∧ ∀ o : OI, BdO 1000 o → P (eO o)
/-- the roll of k, as a call -/
theorem roll_call {G : Gd} {ρ : Rho} {ta tb : TE} {k : Nat} (h1 : Ev G ta ρ .dice) (h2 : Ed G tb ρ (.int (k : Int))) (h0 : 0 < k) (hk : k < 1073741824) : Er G (tCall (spR G 2 R_roll) [] E0 (tCons ta (tCons tb tNil))) ρ (fun e => ∃ r : Nat, e = eI r ∧ r < k) := by
  refine er_call (era_cons (er_ev h1) (era_cons (er_ev h2) era_nil)) ?_
  rintro es ⟨e, r, rfl, rfl, e2, r2, rfl, rfl, rfl⟩
  exact ⟨rfl, k, rfl, h0, hk, fun r hr => ⟨r, rfl, hr⟩⟩
abbrev s__law_zw_bound : Stmt := (topS 61)
abbrev N__law_zw_bound : List Str := ["_law_dice_here", "_law_unit", "_law_way"]
theorem sc__law_zw_bound : FnScope N__law_zw_bound ["_law_dice_here", "_law_unit"] (defScope s__law_zw_bound) := ⟨rfl, rfl, rfl, by decide +kernel, rfl, by decide +kernel, by decide +kernel⟩
theorem ok__law_zw_bound {f : Addr} {fd : FuncData} (F : Fun G.K "_law_zw_bound" "_law_zw_bound" s__law_zw_bound f fd) (B : Bi mg)  (h__law_roll : Has P w G.K mg base "_law_roll" 1 ["_law_dice_here", "_law_most"] (spR G 2 R_roll)) : FnOk P w G.K mg base CX0 2 f fd ["_law_dice_here", "_law_unit"] (spR G 2 R_zbound) := by
  refine F.ok sc__law_zw_bound (fun vs H Q E h => h.1) (fun cdv A outer s H vs Q E hr h => ⟨_, (pss_cons (ps_set (i := 2) sc__law_zw_bound.nd rfl (Or.inl rfl) (pe_fn h__law_roll hr (by decide) (pa_cons (pv 0) (pa_cons pe_int pa_nil))))
      (pss_cons (ps_if (pt_cmpR op_lt (pv 2) pe_int (nomark _)) (pss_one (ps_ret pe_non)) pss_nil)
      (pss_one (ps_ret (pe_ifExp (pt_cmpR op_lt (pv 2) pe_int (nomark _)) (pe_op op_mul (pv 1) (pe_op op_sub (pe_fn h__law_roll hr (by decide) (pa_cons (pv 0) (pa_cons pe_int pa_nil))) pe_int)) (pe_op op_sub (pe_fn h__law_roll hr (by decide) (pa_cons (pv 0) (pa_cons (pe_op op_mul pe_int (pv 1)) pa_nil))) (pe_op op_mul pe_int (pv 1)))))))), ?_⟩)
  obtain ⟨_, d, S, es, Pp, hd, da, dm, rl, ⟨u, rfl, u1, u64, hP⟩, kk⟩ := h
  refine fn_runR hd da dm rl kk ?_
  refine em_seq (N1 := fun ρ om => ∃ r : Nat, ρ = [some .dice, some (eI u), some (eI r)] ∧ om = []) (em_asgR rfl (roll_call (k := 6) (ev_var rfl) ev_int (by decide) (by decide)) (by simp [slots]) ?_) ?_
  · rintro e ⟨r, rfl, _⟩
    exact ⟨r, rfl, rfl⟩
  rintro ρ om ⟨r, rfl, rfl⟩
  refine em_seq (N1 := fun ρ om => ρ = [some .dice, some (eI u), some (eI r)] ∧ om = []) (em_if (et_test (ev_B0 (ev_var rfl) ev_int)) (fun _ => em_ret ev_non (hP none fun x e => by cases e)) fun _ => em_next ⟨rfl, rfl⟩) ?_
  rintro ρ om ⟨rfl, rfl⟩
  refine em_retR rfl (er_ifE (P := fun e => ∃ o : OI, e = eO o ∧ BdO 1000 o) (et_test (ev_B0 (ev_var rfl) ev_int)) (fun _ => er_op (P' := fun e => ∃ x : Int, e = eI x ∧ -3 ≤ x ∧ x ≤ 4) (er_ev (ev_var rfl)) (er_op (roll_call (k := 8) (ev_var rfl) ev_int (by decide) (by decide)) (er_ev ev_int) ?_) ?_) fun _ => er_op (roll_call (k := 9 * u) (ev_var rfl) (Ev.to (ev_I ev_int (ev_var rfl) (.inl ⟨by decide, by decide⟩)) (by rw [Int.natCast_mul]; rfl)) (by omega) (by omega)) (er_ev (ev_I ev_int (ev_var rfl) (.inl ⟨by decide, by decide⟩))) ?_) ?_
  · rintro x y ⟨r, rfl, hr⟩ rfl
    exact ⟨_, ro_I0, _, rfl, by omega, by omega⟩
  · rintro x y rfl ⟨r, rfl, h1, h2⟩
    refine ⟨_, ro_I (.inl ⟨by omega, by omega⟩), some _, rfl, fun z e => ?_⟩
    cases e
    have a1 : (u : Int) * r ≤ u * 4 := Int.mul_le_mul_of_nonneg_left h2 (by omega)
    have a2 : (u : Int) * (-3) ≤ u * r := Int.mul_le_mul_of_nonneg_left h1 (by omega)
    constructor
    · show -1000 ≤ (u : Int) * r
      omega
    · show (u : Int) * r ≤ 1000
      omega
  · rintro x y ⟨r, rfl, hr⟩ rfl
    refine ⟨_, ro_I0, some _, rfl, fun z e => ?_⟩
    cases e
    constructor
    · show -1000 ≤ (r : Int) - 3 * u
      omega
    · show (r : Int) - 3 * u ≤ 1000
      omega
  · rintro e ⟨o, rfl, ho⟩
    exact hP o ho
def R_drawn (es : List Ent) (P : Ent → Prop) : Prop := ∃ n u : Nat, es = [.dice, eI n, eI u] ∧ (1 ≤ n ∧ n ≤ 3) ∧ (1 ≤ u ∧ u ≤ 64) ∧ ∀ m : Mat, Sq (n + 1) m → BdM 1000 m → P (.dat (matD m))
theorem sq_of {n : Nat} {m : Mat} (h1 : m.length = n) (h2 : ∀ r ∈ m, r.length = n) : Sq n m := ⟨h1, h2⟩
abbrev s__law_zw_drawn : Stmt := (topS 62)
abbrev N__law_zw_drawn : List Str := ["_law_dice_here", "_law_clocks", "_law_unit", "_law_size", "_law_i", "_law_j", "_law_clock", "_law_point", "_law_found", "_law_line", "_law_more"]
theorem sc__law_zw_drawn : FnScope N__law_zw_drawn ["_law_dice_here", "_law_clocks", "_law_unit"] (defScope s__law_zw_drawn) := ⟨rfl, rfl, rfl, by decide +kernel, rfl, by decide +kernel, by decide +kernel⟩
theorem ok__law_zw_drawn {f : Addr} {fd : FuncData} (F : Fun G.K "_law_zw_drawn" "_law_zw_drawn" s__law_zw_drawn f fd) (B : Bi mg)  (h__law_roll : Has P w G.K mg base "_law_roll" 1 ["_law_dice_here", "_law_most"] (spR G 2 R_roll)) (h__law_zw_bound : Has P w G.K mg base "_law_zw_bound" 2 ["_law_dice_here", "_law_unit"] (spR G 2 R_zbound)) (h__law_pick : Has P w G.K mg base "_law_pick" 2 ["_law_dice_here", "_law_items"] (spR G 2 R_pick)) : FnOk P w G.K mg base CX0 3 f fd ["_law_dice_here", "_law_clocks", "_law_unit"] (spR G 3 R_drawn) := by
  refine F.ok sc__law_zw_drawn (fun vs H Q E h => h.1) (fun cdv A outer s H vs Q E hr h => ⟨_, (pss_cons (ps_set (i := 3) sc__law_zw_drawn.nd rfl (Or.inr rfl) (pe_op op_add (pv 1) pe_int))
      (pss_cons (ps_if (pt_cmpR op_eq (pe_fn h__law_roll hr (by decide) (pa_cons (pv 0) (pa_cons pe_int pa_nil))) pe_int (nomark _)) (pss_one (ps_ret (Kv.pe_tupleOfK G.K (by rfl) B.tuple (pe_lc rfl sc__law_zw_drawn.nd (pi_range1 (by rfl) B.range (pa_cons (pv 3) pa_nil)) (blkOk_by (own := [("_law_i", 4)]) (N := N__law_zw_drawn) (sc := (defScope s__law_zw_drawn)) (by decide +kernel)) (fun _ _ _ _ _ => (pg_name (i := 4) sc__law_zw_drawn.nd rfl (Or.inl rfl))) (fun _ _ _ _ _ => pts_nil) (fun _ _ _ _ _ => (Kv.pe_tupleOfK G.K (by rfl) B.tuple (pe_lc rfl sc__law_zw_drawn.nd (pi_range1 (by rfl) B.range (pa_cons (pv 3) pa_nil)) (blkOk_by (own := [("_law_j", 5)]) (N := N__law_zw_drawn) (sc := (relS { kind := PySem.ScopeKind.function, names := [ (PySem.Str.ofString ".0", PySem.NameKind.local), (PySem.Str.ofString "_law_i", PySem.NameKind.local), (PySem.Str.ofString "tuple", PySem.NameKind.globalImplicit), (PySem.Str.ofString "range", PySem.NameKind.globalImplicit), (PySem.Str.ofString "_law_dice_here", PySem.NameKind.free), (PySem.Str.ofString "_law_size", PySem.NameKind.free), (PySem.Str.ofString "_law_unit", PySem.NameKind.free)], isGenerator := false, isCoroutine := false, more := [] : PySem.Scope } (defScope s__law_zw_drawn))) (by decide +kernel)) (fun _ _ _ _ _ => (pg_name (i := 5) sc__law_zw_drawn.nd rfl (Or.inl rfl))) (fun _ _ _ _ _ => pts_nil) (fun _ _ _ _ _ => (pe_fn h__law_zw_bound hr (by decide) (pa_cons (pv 0) (pa_cons (pv 2) pa_nil))))))))))) pss_nil)
      (pss_cons (ps_set (i := 7) sc__law_zw_drawn.nd rfl (Or.inl rfl) (pe_op op_cat (pe_lst (pa_cons pe_int pa_nil)) (pe_lc rfl sc__law_zw_drawn.nd (pi_range1 (by rfl) B.range (pa_cons (pv 1) pa_nil)) (blkOk_by (own := [("_law_clock", 6)]) (N := N__law_zw_drawn) (sc := (defScope s__law_zw_drawn)) (by decide +kernel)) (fun _ _ _ _ _ => (pg_name (i := 6) sc__law_zw_drawn.nd rfl (Or.inl rfl))) (fun _ _ _ _ _ => pts_nil) (fun _ _ _ _ _ => (pe_fn h__law_roll hr (by decide) (pa_cons (pv 0) (pa_cons (pe_op op_mul pe_int (pv 2)) pa_nil)))))))
      (pss_cons (ps_set (i := 8) sc__law_zw_drawn.nd rfl (Or.inl rfl) (pe_lst pa_nil))
      (pss_cons (ps_for PassesOwn.never rfl (pi_range1 (by rfl) B.range (pa_cons (pv 3) pa_nil)) (pg_name (i := 4) sc__law_zw_drawn.nd rfl (Or.inl rfl)) (pss_cons (ps_set (i := 9) sc__law_zw_drawn.nd rfl (Or.inl rfl) (pe_lst pa_nil))
      (pss_cons (ps_for PassesOwn.never rfl (pi_range1 (by rfl) B.range (pa_cons (pv 3) pa_nil)) (pg_name (i := 5) sc__law_zw_drawn.nd rfl (Or.inl rfl)) (pss_cons (ps_set (i := 10) sc__law_zw_drawn.nd rfl (Or.inl rfl) (pe_fn h__law_pick hr (by decide) (pa_cons (pv 0) (pa_cons (pe_lst (pa_cons pe_int (pa_cons pe_int (pa_cons pe_int (pa_cons (pv 2) (pa_cons (pe_op op_mul pe_int (pv 2)) (pa_cons pe_non (pa_cons pe_non pa_nil)))))))) pa_nil))))
      (pss_one (ps_expr (pe_bm PySem.F.plainAttrs_list PySem.F.slot_list_append PySem.F.type_list_append mt_append (pv 9) (pa_cons (pe_ifExp (pt_cmpR op_isN (pv 10) pe_non (nomark _)) pe_non (pe_op op_add (pe_op op_sub (pe_ix (Kv.ix_listK G.K) (pv 7) (pv 4) (fun _ _ => rfl)) (pe_ix (Kv.ix_listK G.K) (pv 7) (pv 5) (fun _ _ => rfl))) (pv 10))) pa_nil))))))
      (pss_one (ps_expr (pe_bm PySem.F.plainAttrs_list PySem.F.slot_list_append PySem.F.type_list_append mt_append (pv 8) (pa_cons (Kv.pe_tupleOfK G.K (by rfl) B.tuple (pv 9)) pa_nil)))))))
      (pss_one (ps_ret (Kv.pe_tupleOfK G.K (by rfl) B.tuple (pv 8))))))))), ?_⟩)
  obtain ⟨_, d, S, es, Pp, hd, da, dm, rl, ⟨n, u, rfl, ⟨n1, n3⟩, ⟨u1, u64⟩, hP⟩, kk⟩ := h
  refine fn_runR hd da dm rl kk ?_
  let Fr : Rho → Prop := fun ρ => ∃ r4 r5 r9 r10, ∃ pt : List Int, pt.length = n + 1 ∧ (∀ x ∈ pt, 0 ≤ x ∧ x ≤ 320) ∧ ρ = [some .dice, some (eI n), some (eI u), some (eI ((n + 1 : Nat) : Int)), r4, r5, none, some (.dat (.list (pt.map .int))), none, r9, r10]
  refine em_seq (N1 := fun ρ om => ρ = [some .dice, some (eI n), some (eI u), some (eI ((n + 1 : Nat) : Int)), none, none, none, none, none, none, none] ∧ om = []) (em_asg (Ev.to (ev_I0 (ev_var rfl) ev_int) (y := eI ((n + 1 : Nat) : Int)) rfl) (by simp [slots]) ⟨rfl, rfl⟩) ?_
  rintro ρ om ⟨rfl, rfl⟩
  refine em_seq (N1 := fun ρ om => ρ = [some .dice, some (eI n), some (eI u), some (eI ((n + 1 : Nat) : Int)), none, none, none, none, none, none, none] ∧ om = []) (em_ifR rfl (ert_B (er_op (roll_call (k := 3) (ev_var rfl) ev_int (by decide) (by decide)) (er_ev ev_int) ?_)) (em_retR rfl (er_tupleOf (Pl := fun ds => ∃ m : Mat, ds = m.map rowD ∧ Sq (n + 1) m ∧ BdM 1000 m) (Er.mono (Erl.ed (erl_lc (js := [4]) (l := List.range (n + 1)) (enc := fun (i : Nat) => eI i) (fun _ d => ∃ r : K18.Row, d = rowD r ∧ r.length = n + 1 ∧ BdR 1000 r) (sr_rng (ea_cons (ev_var rfl) ea_nil) (by omega)) (by rw [List.length_range]; omega) (by simp) fun i hi => ⟨_, tg_name, Er.mono (er_tupleOf (Pl := fun ds => ∃ r : K18.Row, ds = r.map oi ∧ r.length = n + 1 ∧ BdR 1000 r) (Er.mono (Erl.ed (erl_lc (js := [5]) (l := List.range (n + 1)) (enc := fun (i : Nat) => eI i) (fun _ d => ∃ o : OI, d = oi o ∧ BdO 1000 o) (sr_rng (ea_cons (ev_var rfl) ea_nil) (by omega)) (by rw [List.length_range]; omega) (by simp) fun j hj => ⟨_, tg_name, er_call (era_cons (er_ev (ev_var rfl)) (era_cons (er_ev (ev_var rfl)) era_nil)) ?_⟩)) ?_)) ?_⟩)) ?_)) ?_) (em_next ⟨rfl, rfl⟩)) ?_
  · rintro x y ⟨r, rfl, hr⟩ rfl
    exact ⟨_, (show Ro _ rEq (eI r) (eI 0) (eB (decide ((r : Int) = 0))) from fun S H v w dm h1 h2 Q q => by
      cases dp_int h1
      cases dp_int h2
      refine ⟨rfl, q _ H (Ex.refl H) ?_⟩
      have : decide (V.int (r : Int) = V.int 0) = decide ((r : Int) = 0) := by simp
      rw [this]
      exact .bl _), _, rfl⟩
  · rintro es ⟨e, r, rfl, rfl, e2, r2, rfl, rfl, rfl⟩
    exact ⟨rfl, u, rfl, u1, u64, fun o ho => ⟨oi o, rfl, o, rfl, ho⟩⟩
  · rintro e ⟨ds, h, rfl⟩
    obtain ⟨bs, rfl, hl, hb⟩ := all2_ex h
    rw [List.length_range] at hl
    exact ⟨_, ⟨bs, rfl, hl, hb⟩, rfl⟩
  · rintro e ⟨ds, ⟨r, rfl, hl, hb⟩, rfl⟩
    exact ⟨rowD r, rfl, r, rfl, hl, hb⟩
  · rintro e ⟨ds, h, rfl⟩
    obtain ⟨bs, rfl, hl, hb⟩ := all2_ex h
    rw [List.length_range] at hl
    exact ⟨_, ⟨bs, rfl, sq_of hl fun r hr => (hb r hr).1, fun r hr => (hb r hr).2⟩, rfl⟩
  · rintro e ⟨ds, ⟨m, rfl, sq, hb⟩, rfl⟩
    exact hP m sq hb
  rintro ρ om ⟨rfl, rfl⟩
  refine em_seq (N1 := fun ρ om => Fr ρ ∧ om = []) (em_asgR rfl (Erl.ed (erl_cat (ds := [.int 0]) (el_lst (ds := [.int 0]) (ea_cons ev_int ea_nil) (Nat.le_of_ble_eq_true rfl)) (erl_lc (js := [6]) (l := List.range n) (enc := fun (i : Nat) => eI i) (fun _ d => ∃ x : Int, d = .int x ∧ 0 ≤ x ∧ x ≤ 320) (sr_rng (ea_cons (ev_var rfl) ea_nil) (by omega)) (by rw [List.length_range]; omega) (by simp) fun j hj => ⟨_, tg_name, Er.mono (roll_call (k := 5 * u) (ev_var rfl) (Ev.to (ev_I ev_int (ev_var rfl) (.inl ⟨by decide, by decide⟩)) (by rw [Int.natCast_mul]; rfl)) (by omega) (by omega)) ?_⟩) fun es h => by rw [h.1, List.length_range]; show 1 + n ≤ 100000; omega)) (by simp [slots]) ?_) ?_
  · rintro e ⟨r, rfl, hr⟩
    exact ⟨.int r, rfl, r, rfl, by omega, by omega⟩
  · rintro e ⟨ds, ⟨es, h, rfl⟩, rfl⟩
    obtain ⟨bs, rfl, hl, hb⟩ := all2_ex h
    rw [List.length_range] at hl
    refine ⟨⟨_, _, _, _, 0 :: bs, by rw [List.length_cons, hl], fun x hx => ?_, rfl⟩, rfl⟩
    rcases List.mem_cons.mp hx with rfl | hx
    · exact ⟨by decide, by decide⟩
    · exact hb x hx
  rintro ρ om ⟨⟨r4, r5, r9, r10, pt, hpt, hpb, rfl⟩, rfl⟩
  have at_pt : ∀ {i : Nat}, i < n + 1 → atI (pt.map PyData.int) (i : Int) = some (.int (pt.getD i 0)) ∧ 0 ≤ pt.getD i 0 ∧ pt.getD i 0 ≤ 320 := fun {i} hi => by
    refine ⟨at_map 0 (by omega), ?_⟩
    have hm : pt.getD i 0 ∈ pt := by
      rw [List.getD_eq_getElem?_getD, List.getElem?_eq_getElem (by omega)]
      exact List.getElem_mem _
    exact hpb _ hm
  let St : Nat → Rho → Om → Prop := fun k ρ om => (∃ r4 r5 r9 r10, ρ = [some .dice, some (eI n), some (eI u), some (eI ((n + 1 : Nat) : Int)), r4, r5, none, some (.dat (.list (pt.map .int))), none, r9, r10]) ∧ ∃ m : Mat, m.length = k ∧ (∀ r ∈ m, r.length = n + 1 ∧ BdR 1000 r) ∧ om = [(8, m.map rowD)]
  refine em_seq (N1 := St 0) (em_new (ds := []) (el_lst (ds := []) ea_nil (Nat.le_of_ble_eq_true rfl)) (by simp [slots]) (by show 8 < 11; decide) ⟨⟨_, _, _, _, rfl⟩, [], rfl, by simp, rfl⟩) ?_
  rintro ρ om ⟨⟨r4, r5, r9, r10, rfl⟩, m, hm, hmr, rfl⟩
  refine em_seq (N1 := St (n + 1)) (em_for (js := [4]) (xs := (List.range (n + 1)).map fun (i : Nat) => eI i) (sr_rng (ea_cons (ev_var rfl) ea_nil) (by omega)) St ⟨⟨_, _, _, _, rfl⟩, m, hm, hmr, rfl⟩ ?_ fun ρ om h => by rw [List.length_map, List.length_range] at h; exact h) ?_
  · rintro i e ρ om hi ⟨⟨r4, r5, r9, r10, rfl⟩, m, hm, hmr, rfl⟩
    obtain ⟨hi1, rfl⟩ := rg_get hi
    refine ⟨by simp [slots], _, tg_name, ?_⟩
    let Sj : Nat → Rho → Om → Prop := fun k ρ om => (∃ r5 r10, ρ = [some .dice, some (eI n), some (eI u), some (eI ((n + 1 : Nat) : Int)), some (eI i), r5, none, some (.dat (.list (pt.map .int))), none, none, r10]) ∧ ∃ r : K18.Row, r.length = k ∧ BdR 1000 r ∧ om = [(9, r.map oi), (8, m.map rowD)]
    refine em_seq (N1 := Sj 0) (em_new (ds := []) (el_lst (ds := []) ea_nil (Nat.le_of_ble_eq_true rfl)) (by simp [slots]) (by show 9 < 11; decide) ⟨⟨_, _, rfl⟩, [], rfl, fun o ho => by simp at ho, rfl⟩) ?_
    rintro ρ om ⟨⟨r5, r10, rfl⟩, r, hr, hrb, rfl⟩
    refine em_seq (N1 := Sj (n + 1)) (em_for (js := [5]) (xs := (List.range (n + 1)).map fun (i : Nat) => eI i) (sr_rng (ea_cons (ev_var rfl) ea_nil) (by omega)) Sj ⟨⟨_, _, rfl⟩, r, hr, hrb, rfl⟩ ?_ fun ρ om h => by rw [List.length_map, List.length_range] at h; exact h) ?_
    · rintro j e ρ om hj ⟨⟨r5, r10, rfl⟩, r, hr, hrb, rfl⟩
      obtain ⟨hj1, rfl⟩ := rg_get hj
      refine ⟨by simp [slots], _, tg_name, ?_⟩
      refine em_seq (N1 := fun ρ om => ∃ o : OI, BdO 128 o ∧ ρ = [some .dice, some (eI n), some (eI u), some (eI ((n + 1 : Nat) : Int)), some (eI i), some (eI j), none, some (.dat (.list (pt.map .int))), none, none, some (eO o)] ∧ om = [(9, r.map oi), (8, m.map rowD)]) (em_asgR (P := fun e => ∃ o : OI, e = eO o ∧ BdO 128 o) rfl (er_call (era_cons (er_ev (ev_var rfl)) (era_cons (Er.mono (er_ev (El.ed (el_lst (ds := [.int 0, .int 0, .int 1, .int u, .int (2 * u), .none, .none]) (ea_cons ev_int (ea_cons ev_int (ea_cons ev_int (ea_cons (ev_var rfl) (ea_cons (ev_I ev_int (ev_var rfl) (.inl ⟨by decide, by decide⟩)) (ea_cons ev_non (ea_cons ev_non ea_nil))))))) (Nat.le_of_ble_eq_true rfl)))) fun e h => h) era_nil)) ?_) (by simp [slots]) ?_) ?_
      · rintro es ⟨e, r, rfl, rfl, e2, r2, rfl, rfl, rfl⟩
        refine ⟨rfl, _, rfl, (by show 0 < 7; decide), (by show 7 ≤ 1000; decide), fun d hd => ?_⟩
        simp only [List.mem_cons, List.not_mem_nil, or_false] at hd
        rcases hd with rfl | rfl | rfl | rfl | rfl | rfl | rfl
        · exact ⟨some 0, rfl, fun x e => by cases e; exact ⟨by decide, by decide⟩⟩
        · exact ⟨some 0, rfl, fun x e => by cases e; exact ⟨by decide, by decide⟩⟩
        · exact ⟨some 1, rfl, fun x e => by cases e; exact ⟨by decide, by decide⟩⟩
        · exact ⟨some u, rfl, fun x e => by cases e; exact ⟨by omega, by omega⟩⟩
        · exact ⟨some (2 * u), rfl, fun x e => by cases e; exact ⟨by omega, by omega⟩⟩
        · exact ⟨none, rfl, fun x e => by cases e⟩
        · exact ⟨none, rfl, fun x e => by cases e⟩
      · rintro e ⟨o, rfl, ho⟩
        exact ⟨o, ho, rfl, rfl⟩
      rintro ρ om ⟨o, ho, rfl, rfl⟩
      obtain ⟨p1, p2, p3⟩ := at_pt hi1
      obtain ⟨q1, q2, q3⟩ := at_pt hj1
      have more : ∀ (x : OI), BdO 1000 x → BdR 1000 (r ++ [x]) := fun x hx o ho => by
        rcases List.mem_append.mp ho with ho | ho
        · exact hrb o ho
        · have : o = x := by simpa using ho
          rw [this]
          exact hx
      cases o with
      | none =>
        refine em_append (k := 0) (d := .none) rfl (ev_ifT (et_test (ev_isNb (ev_var rfl))) ev_non) (by rw [List.length_map]; omega) ⟨⟨_, _, rfl⟩, r ++ [none], by rw [List.length_append, hr]; rfl, more none (fun x e => by cases e), ?_⟩
        rw [List.map_append]
        rfl
      | some x =>
        have hx := ho x rfl
        refine em_append (k := 0) (d := .int (pt.getD i 0 - pt.getD j 0 + x)) rfl (ev_ifF (et_test (ev_isNb (ev_var rfl))) (ev_I0 (ev_I0 (ev_ixL (ev_var rfl) (ev_var rfl) p1) (ev_ixL (ev_var rfl) (ev_var rfl) q1)) (ev_var rfl))) (by rw [List.length_map]; omega) ⟨⟨_, _, rfl⟩, r ++ [some (pt.getD i 0 - pt.getD j 0 + x)], by rw [List.length_append, hr]; rfl, more _ ?_, ?_⟩
        · intro y e
          cases e
          omega
        · rw [List.map_append]
          rfl
    · rintro ρ om ⟨⟨r5, r10, rfl⟩, r, hr, hrb, rfl⟩
      refine em_post (N' := fun ρ om => (∃ r4 r5 r9 r10, ρ = [some .dice, some (eI n), some (eI u), some (eI ((n + 1 : Nat) : Int)), r4, r5, none, some (.dat (.list (pt.map .int))), none, r9, r10]) ∧ om = [(9, r.map oi), (8, (m ++ [r]).map rowD)]) (em_appendT (k := 1) (es := r.map oi) rfl (ev_tupleOf (.inl (ev_var rfl))) (flats_oi _) (by rw [List.length_map]; omega) ⟨⟨_, _, _, _, rfl⟩, ?_⟩) fun ρ om h => ?_
      · rw [List.map_append]
        rfl
      · obtain ⟨h1, rfl⟩ := h
        refine ⟨_, _, _, rfl, h1, m ++ [r], by rw [List.length_append, hm]; rfl, fun q hq => ?_, rfl⟩
        rcases List.mem_append.mp hq with hq | hq
        · exact hmr q hq
        · have : q = r := by simpa using hq
          rw [this]
          exact ⟨hr, hrb⟩
  · rintro ρ om ⟨⟨r4, r5, r9, r10, rfl⟩, m, hm, hmr, rfl⟩
    exact em_ret (x := .dat (matD m)) (ev_tupleOf (.inl (ev_var rfl))) (hP m (sq_of hm fun r hr => (hmr r hr).1) fun r hr => (hmr r hr).2)
def R_bent (es : List Ent) (P : Ent → Prop) : Prop := ∃ (n u : Nat) (m : Mat), es = [.dice, .dat (matD m), eI u] ∧ Sq n m ∧ n ≤ 100 ∧ BdM 1000 m ∧ (1 ≤ u ∧ u ≤ 64) ∧ ∀ m' : Mat, Sq n m' → BdM 1001 m' → P (.dat (matD m'))
abbrev s__law_bent : Stmt := (topS 65)
abbrev N__law_bent : List Str := ["_law_dice_here", "_law_bounds", "_law_unit", "_law_found", "_law_line", "_law_later", "_law_one", "_law_more"]
theorem sc__law_bent : FnScope N__law_bent ["_law_dice_here", "_law_bounds", "_law_unit"] (defScope s__law_bent) := ⟨rfl, rfl, rfl, by decide +kernel, rfl, by decide +kernel, by decide +kernel⟩
theorem ok__law_bent {f : Addr} {fd : FuncData} (F : Fun G.K "_law_bent" "_law_bent" s__law_bent f fd) (B : Bi mg)  (h__law_zw_bound : Has P w G.K mg base "_law_zw_bound" 2 ["_law_dice_here", "_law_unit"] (spR G 2 R_zbound)) (h__law_pick : Has P w G.K mg base "_law_pick" 2 ["_law_dice_here", "_law_items"] (spR G 2 R_pick)) : FnOk P w G.K mg base CX0 3 f fd ["_law_dice_here", "_law_bounds", "_law_unit"] (spR G 3 R_bent) := by
  refine F.ok sc__law_bent (fun vs H Q E h => h.1) (fun cdv A outer s H vs Q E hr h => ⟨_, (pss_cons (ps_set (i := 3) sc__law_bent.nd rfl (Or.inl rfl) (pe_lst pa_nil))
      (pss_cons (ps_for PassesOwn.never rfl (Kv.pi_tupK G.K (pv 1)) (pg_name (i := 4) sc__law_bent.nd rfl (Or.inl rfl)) (pss_cons (ps_set (i := 5) sc__law_bent.nd rfl (Or.inl rfl) (pe_lst pa_nil))
      (pss_cons (ps_for PassesOwn.never rfl (Kv.pi_tupK G.K (pv 4)) (pg_name (i := 6) sc__law_bent.nd rfl (Or.inl rfl)) (pss_cons (ps_set (i := 7) sc__law_bent.nd rfl (Or.inl rfl) (pe_ifExp (pt_cmpR op_isN (pv 6) pe_non (nomark _)) pe_non (pe_op op_add (pv 6) pe_int)))
      (pss_one (ps_expr (pe_bm PySem.F.plainAttrs_list PySem.F.slot_list_append PySem.F.type_list_append mt_append (pv 5) (pa_cons (pe_fn h__law_pick hr (by decide) (pa_cons (pv 0) (pa_cons (pe_lst (pa_cons (pv 6) (pa_cons (pv 6) (pa_cons (pv 6) (pa_cons (pv 7) (pa_cons (pe_fn h__law_zw_bound hr (by decide) (pa_cons (pv 0) (pa_cons (pv 2) pa_nil))) pa_nil)))))) pa_nil))) pa_nil))))))
      (pss_one (ps_expr (pe_bm PySem.F.plainAttrs_list PySem.F.slot_list_append PySem.F.type_list_append mt_append (pv 3) (pa_cons (Kv.pe_tupleOfK G.K (by rfl) B.tuple (pv 5)) pa_nil)))))))
      (pss_one (ps_ret (Kv.pe_tupleOfK G.K (by rfl) B.tuple (pv 3)))))), ?_⟩)
  obtain ⟨_, d, S, es, Pp, hd, da, dm, rl, ⟨n, u, m, rfl, sq, hn, hb, ⟨u1, u64⟩, hP⟩, kk⟩ := h
  refine fn_runR hd da dm rl kk ?_
  let St : Nat → Rho → Om → Prop := fun k ρ om => (∃ r4 r5 r6 r7, ρ = [some .dice, some (.dat (matD m)), some (eI u), none, r4, r5, r6, r7]) ∧ ∃ m' : Mat, m'.length = k ∧ (∀ r ∈ m', r.length = n ∧ BdR 1001 r) ∧ om = [(3, m'.map rowD)]
  refine em_seq (N1 := St 0) (em_new (ds := []) (el_lst (ds := []) ea_nil (Nat.le_of_ble_eq_true rfl)) (by simp [slots]) (by show 3 < 8; decide) ⟨⟨_, _, _, _, rfl⟩, [], rfl, by simp, rfl⟩) ?_
  rintro ρ om ⟨⟨r4, r5, r6, r7, rfl⟩, m', hm, hmr, rfl⟩
  refine em_seq (N1 := St n) (em_for (js := [4]) (xs := m.map fun r => .dat (rowD r)) (sr_tupM (ev_var rfl)) St ⟨⟨_, _, _, _, rfl⟩, m', hm, hmr, rfl⟩ ?_ fun ρ om h => by rw [List.length_map, sq.len] at h; exact h) ?_
  · rintro i e ρ om hi ⟨⟨r4, r5, r6, r7, rfl⟩, m', hm, hmr, rfl⟩
    obtain ⟨hi1, rfl⟩ := mp_get [] hi
    rw [sq.len] at hi1
    have hrow := Sq.rowlen sq hi1
    have hmem : m.getD i [] ∈ m := by
      rw [List.getD_eq_getElem?_getD, List.getElem?_eq_getElem (by rw [sq.len]; exact hi1)]
      exact List.getElem_mem _
    have hbr := hb _ hmem
    generalize m.getD i [] = w at hrow hbr
    refine ⟨by simp [slots], _, tg_name, ?_⟩
    let Sj : Nat → Rho → Om → Prop := fun k ρ om => (∃ r6 r7, ρ = [some .dice, some (.dat (matD m)), some (eI u), none, some (.dat (rowD w)), none, r6, r7]) ∧ ∃ r : K18.Row, r.length = k ∧ BdR 1001 r ∧ om = [(5, r.map oi), (3, m'.map rowD)]
    refine em_seq (N1 := Sj 0) (em_new (ds := []) (el_lst (ds := []) ea_nil (Nat.le_of_ble_eq_true rfl)) (by simp [slots]) (by show 5 < 8; decide) ⟨⟨_, _, rfl⟩, [], rfl, fun o ho => by simp at ho, rfl⟩) ?_
    rintro ρ om ⟨⟨r6, r7, rfl⟩, r, hr, hrb, rfl⟩
    refine em_seq (N1 := Sj n) (em_for (js := [6]) (xs := w.map fun o => eO o) (sr_tupM (ev_var rfl)) Sj ⟨⟨_, _, rfl⟩, r, hr, hrb, rfl⟩ ?_ fun ρ om h => by rw [List.length_map, hrow] at h; exact h) ?_
    · rintro j e ρ om hj ⟨⟨r6, r7, rfl⟩, r, hr, hrb, rfl⟩
      obtain ⟨hj1, rfl⟩ := mp_get none hj
      have hom : w.getD j none ∈ w := by
        rw [List.getD_eq_getElem?_getD, List.getElem?_eq_getElem hj1]
        exact List.getElem_mem _
      have hob := hbr _ hom
      generalize w.getD j none = o at hob
      refine ⟨by simp [slots], _, tg_name, ?_⟩
      obtain ⟨o1, eo1⟩ : ∃ o1 : OI, o1 = o.map (· + 1) := ⟨_, rfl⟩
      have ho1 : BdO 1001 o1 := fun x e => by
        rw [eo1] at e
        cases o with
        | none => cases e
        | some y =>
          have hy := hob y rfl
          have e' : y + 1 = x := Option.some.inj e
          omega
      have hob1 : BdO 1001 o := hob.mono (by decide)
      refine em_seq (N1 := fun ρ om => ρ = [some .dice, some (.dat (matD m)), some (eI u), none, some (.dat (rowD w)), none, some (eO o), some (eO o1)] ∧ om = [(5, r.map oi), (3, m'.map rowD)]) (em_asg (x := eO o1) ?_ (by simp [slots]) ⟨rfl, rfl⟩) ?_
      · rw [eo1]
        cases o with
        | none => exact ev_ifT (et_test (ev_isNb (ev_var rfl))) ev_non
        | some y => exact ev_ifF (et_test (ev_isNb (ev_var rfl))) (ev_I0 (ev_var rfl) ev_int)
      rintro ρ om ⟨rfl, rfl⟩
      refine em_appendR (k := 0) (P := fun e => ∃ o : OI, e = eO o ∧ BdO 1001 o) rfl rfl (er_call (Ps := fun es => ∃ q : OI, BdO 1001 q ∧ es = [.dice, .dat (.list [oi o, oi o, oi o, oi o1, oi q])]) ?_ ?_) (fun e ⟨o, h, _⟩ => ⟨_, h⟩) (by rw [List.length_map]; have := hr; omega) fun x hx => ?_
      · refine fun S σ H E c Q q => (era_cons (er_ev (ev_var rfl)) (era_cons (Erl.ed (erl_lstP (Pl := fun ds => ∃ q : OI, BdO 1001 q ∧ ds = [oi o, oi o, oi o, oi o1, oi q]) (era_cons (er_ev (ev_var rfl)) (era_cons (er_ev (ev_var rfl)) (era_cons (er_ev (ev_var rfl)) (era_cons (er_ev (ev_var rfl)) (era_cons (er_call (P := fun e => ∃ q : OI, e = eO q ∧ BdO 1000 q) (era_cons (er_ev (ev_var rfl)) (era_cons (er_ev (ev_var rfl)) era_nil)) ?_) era_nil))))) ?_)) era_nil)) S σ H E c Q fun vs H' es pes => q vs H' es ?_
        · rintro es ⟨e, r, rfl, rfl, e2, r2, rfl, rfl, rfl⟩
          exact ⟨rfl, u, rfl, u1, u64, fun o ho => ⟨o, rfl, ho⟩⟩
        · rintro es ⟨a1, b1, rfl, rfl, a2, b2, rfl, rfl, a3, b3, rfl, rfl, a4, b4, rfl, rfl, a5, b5, rfl, ⟨q, rfl, hq⟩, rfl⟩
          exact ⟨[oi o, oi o, oi o, oi o1, oi q], rfl, (by show 5 ≤ 1000; decide), q, hq.mono (by decide), rfl⟩
        · obtain ⟨e, r, rfl, rfl, e2, r2, rfl, ⟨ds, ⟨q, hq, rfl⟩, rfl⟩, rfl⟩ := pes
          exact ⟨q, hq, rfl⟩
      · rintro es ⟨q, hq, rfl⟩
        refine ⟨rfl, _, rfl, (by show 0 < 5; decide), (by show 5 ≤ 1000; decide), fun d hd => ?_⟩
        simp only [List.mem_cons, List.not_mem_nil, or_false] at hd
        rcases hd with rfl | rfl | rfl | rfl | rfl
        · exact ⟨o, rfl, hob1⟩
        · exact ⟨o, rfl, hob1⟩
        · exact ⟨o, rfl, hob1⟩
        · exact ⟨o1, rfl, ho1⟩
        · exact ⟨q, rfl, hq⟩
      · obtain ⟨q, e, hq⟩ := hx
        cases e
        refine ⟨⟨_, _, rfl⟩, r ++ [q], by rw [List.length_append, hr]; rfl, fun o ho => ?_, by rw [List.map_append]; rfl⟩
        rcases List.mem_append.mp ho with ho | ho
        · exact hrb o ho
        · have : o = q := by simpa using ho
          rw [this]
          exact hq
    · rintro ρ om ⟨⟨r6, r7, rfl⟩, r, hr, hrb, rfl⟩
      refine em_post (N' := fun ρ om => (∃ r4 r5 r6 r7, ρ = [some .dice, some (.dat (matD m)), some (eI u), none, r4, r5, r6, r7]) ∧ om = [(5, r.map oi), (3, (m' ++ [r]).map rowD)]) (em_appendT (k := 1) (es := r.map oi) rfl (ev_tupleOf (.inl (ev_var rfl))) (flats_oi _) (by rw [List.length_map]; omega) ⟨⟨_, _, _, _, rfl⟩, ?_⟩) fun ρ om h => ?_
      · rw [List.map_append]
        rfl
      · obtain ⟨h1, rfl⟩ := h
        refine ⟨_, _, _, rfl, h1, m' ++ [r], by rw [List.length_append, hm]; rfl, fun q hq => ?_, rfl⟩
        rcases List.mem_append.mp hq with hq | hq
        · exact hmr q hq
        · have : q = r := by simpa using hq
          rw [this]
          exact ⟨hr, hrb⟩
  · rintro ρ om ⟨⟨r4, r5, r6, r7, rfl⟩, m', hm, hmr, rfl⟩
    exact em_ret (x := .dat (matD m')) (ev_tupleOf (.inl (ev_var rfl))) (hP m' (sq_of hm fun r hr => (hmr r hr).1) fun r hr => (hmr r hr).2)
end
end Ek
end

section
set_option Elab.async false
set_option linter.all false
set_option maxRecDepth 100000
set_option maxHeartbeats 4000000
namespace Ek
open PySem PySem.Spec PyProof.Rows L2 K18
open Evl (Ex ex_rd ex_l ex_t fresh_back sz_of sz_lt)
theorem eqv_self {d : PyData} (h : noB d = true) : PyData.eqv d d = true := (eqv_iff d d h h).mpr rfl
abbrev rr (n u : Nat) (b o fi se le ri he th me ti fn du rd pt wh : Option Ent) : Rho := [some .dice, some (eI n), some (eI u), b, o, fi, se, le, ri, he, th, me, ti, fn, du, none, rd, pt, wh]
/-- the number's readings -/
def ptL (xs : List Int) (k : Nat) : Int := if k = 0 then 0 else xs.getD (k - 1) 0
theorem ptL_rd {n u : Nat} {xs : List Int} (h : xs.length = n) : rdOf (n + 1) u (ptL xs) = xs.map fun x => lowF x u := by
  unfold rdOf
  rw [Nat.add_sub_cancel]
  refine List.ext_getElem? fun i => ?_
  rw [List.getElem?_map, List.getElem?_map]
  by_cases hi : i < n
  · rw [List.getElem?_range hi, List.getElem?_eq_getElem (by omega)]
    show some (lowF (ptL xs (i + 1)) u) = some (lowF xs[i] u)
    unfold ptL
    rw [if_neg (by omega), Nat.add_sub_cancel, List.getD_eq_getElem?_getD, List.getElem?_eq_getElem (by omega)]
    rfl
  · rw [List.getElem?_eq_none (by rw [List.length_range]; omega), List.getElem?_eq_none (by omega)]
    rfl
theorem ptL_pt {n : Nat} {xs : List Int} (h : xs.length = n) (hx : ∀ x ∈ xs, 0 ≤ x ∧ x ≤ 1000) : Pt (n + 1) (ptL xs) := ⟨rfl, fun i hi => by
  unfold ptL
  split
  · exact Int.le_refl _
  · rw [List.getD_eq_getElem?_getD, List.getElem?_eq_getElem (by omega)]
    exact (hx _ (List.getElem_mem _)).1⟩
theorem ptL_ok {n u : Nat} {xs : List Int} (h : xs.length = n) (hx : ∀ x ∈ xs, 0 ≤ x ∧ x ≤ 1000) (hu : 0 < u) (h64 : u ≤ 64) : ∀ p ∈ rdOf (n + 1) u (ptL xs), RdOk p ∧ (u : Int) % p.2 = 0 := fun p hp => by
  rw [ptL_rd h] at hp
  obtain ⟨x, hxm, rfl⟩ := List.mem_map.mp hp
  obtain ⟨h0, h1⟩ := hx x hxm
  have := lowF_ok x hu
  have h2 := this.nn h0
  have big : (1000 : Int) < 10 ^ 60 := by decide
  exact ⟨⟨⟨h2.1, by omega⟩, ⟨this.pos, by have := this.le; omega⟩, this.gcd⟩, this.dvd⟩
theorem iff_b {a b : Bool} (h : a = true ↔ b = true) : (!decide (a = b)) = false := by
  have : a = b := Bool.eq_iff_iff.mpr h
  rw [this]
  simp
section
variable {P : Program} {w : World} {mg : Str → Option Value} {base : Heap} {G : Gd}
def R_right (es : List Ent) (P : Ent → Prop) : Prop := es = [.dice] ∧ P (eB true)
/-- what outside tells is as it is due -/
theorem out_ok {n u : Nat} {m m' : Mat} (wz : WZ n u m) (wz' : WZ n u m') : (outE n u m m' = eN ∧ withinO (n + 1) (closedForm m) (closedForm m') = true) ∨ ∃ rd : List (Int × Int), outE n u m m' = .dat (rdD rd) ∧ withinO (n + 1) (closedForm m) (closedForm m') = false ∧ rd.length + 1 = n + 1 ∧ (∀ p ∈ rd, 0 ≤ p.1 ∧ (0 < p.2 ∧ p.2 ≤ 64) ∧ Nat.gcd p.1.natAbs p.2.natAbs = 1) ∧ hasB (n + 1) u m rd = true ∧ hasB (n + 1) u m' rd = false := by
  have u1 := wz.u1
  have := outs n u m m' wz.sq wz'.sq
  generalize outE n u m m' = y at this
  cases this with
  | within h => exact .inl ⟨rfl, h⟩
  | pt h Q p k k' =>
    refine .inr ⟨_, rfl, h, by rw [rdOf_len]; omega, rdOf_rd p (by omega) wz.u64, (has_iff p.zero (by omega) m).mpr k, ?_⟩
    cases q : hasB (n + 1) u m' (rdOf (n + 1) u Q) with
    | false => rfl
    | true => exact absurd ((has_iff p.zero (by omega) m').mp q) k'
theorem outE_nd {n u : Nat} {m m' : Mat} (wz : WZ n u m) (wz' : WZ n u m') : noDie (outE n u m m') = true := by
  rcases out_ok wz wz' with ⟨h, _⟩ | ⟨rd, h, _⟩ <;> rw [h] <;> rfl
theorem nd5 {u : Int} {a b : PyData} {y : Ent} {c : Bool} (h : noDie y = true) : [eI u, .dat a, .dat b, y, eB c].all noDie = true := by
  rw [List.all_cons, List.all_cons, List.all_cons, List.all_cons, h]
  rfl
abbrev s__law_right : Stmt := (topS 69)
abbrev N__law_right : List Str := ["_law_dice_here", "_law_clocks", "_law_unit", "_law_bounds", "_law_other", "_law_first", "_law_second", "_law_left", "_law_right_here", "_law_here", "_law_there", "_law_met", "_law_times_here", "_law_finer", "_law_due", "_law_clock", "_law_readings", "_law_point", "_law_whole"]
theorem sc__law_right : FnScope N__law_right ["_law_dice_here"] (defScope s__law_right) := ⟨rfl, rfl, rfl, by decide +kernel, rfl, by decide +kernel, by decide +kernel⟩
theorem ok__law_right {f : Addr} {fd : FuncData} (F : Fun G.K "_law_right" "_law_right" s__law_right f fd) (B : Bi mg) (Z : Zo G mg) (h_eq : HasE P w G.K mg base G.Z 1 (spE G 2 R_eq)) (h__law_roll : Has P w G.K mg base "_law_roll" 1 ["_law_dice_here", "_law_most"] (spR G 2 R_roll)) (h__law_pick : Has P w G.K mg base "_law_pick" 2 ["_law_dice_here", "_law_items"] (spR G 2 R_pick)) (h__law_zw_drawn : Has P w G.K mg base "_law_zw_drawn" 3 ["_law_dice_here", "_law_clocks", "_law_unit"] (spR G 3 R_drawn)) (h__law_bent : Has P w G.K mg base "_law_bent" 3 ["_law_dice_here", "_law_bounds", "_law_unit"] (spR G 3 R_bent)) (h_Zone : HasI P w G.K mg base "Zone" G.Z 6 ["self", "clocks", "unit", "bounds"] (spI G G.Z 3 R_zi)) (h__law_zw_closed : Has P w G.K mg base "_law_zw_closed" 5 ["_law_bounds"] (spE G 1 R_z_closed)) (h__law_zw_within : Has P w G.K mg base "_law_zw_within" 1 ["_law_one", "_law_other"] (spE G 2 R_z_within)) (h_is_within : HasM P w G.K mg base G.Z "is_within" 3 (spE G 2 R_is_within)) (h_outside : HasM P w G.K mg base G.Z "outside" 6 (spE G 2 R_outside)) (h__law_outside_right : Has P w G.K mg base "_law_outside_right" 3 ["_law_unit", "_law_one", "_law_other", "_law_told", "_law_is_due"] (spE G 5 R_z_outside)) (h_met : HasM P w G.K mg base G.Z "met" 9 (spE G 2 R_met)) (h_bounds : HasP P w G.K mg base G.Z "bounds" 1 (spE G 1 R_bnds)) (h__law_both : Has P w G.K mg base "_law_both" 1 ["_law_one", "_law_other"] (spE G 2 R_z_both)) (h_clocks : HasP P w G.K mg base G.Z "clocks" 1 (spE G 1 R_clocks)) (h_unit : HasP P w G.K mg base G.Z "unit" 1 (spE G 1 R_unit)) (h_finer : HasM P w G.K mg base G.Z "finer" 9 (spE G 2 R_finer)) (h__law_times : Has P w G.K mg base "_law_times" 1 ["_law_bounds", "_law_times_here"] (spE G 2 R_z_times)) (h_is_empty : HasP P w G.K mg base G.Z "is_empty" 1 (spE G 1 R_is_empty)) (h__law_zw_fraction : Has P w G.K mg base "_law_zw_fraction" 2 ["_law_top", "_law_bottom"] (spE G 2 R_z_fraction)) (h_point_zone : Has P w G.K mg base "point_zone" 9 ["readings", "unit"] (spE G 2 R_point_zone)) (h_least : HasM P w G.K mg base G.Z "least" 4 (spE G 1 R_least)) (h_edge : HasM P w G.K mg base G.Z "edge" 6 (spE G 3 R_edge)) (h__law_zw_has : Has P w G.K mg base "_law_zw_has" 1 ["_law_unit", "_law_bounds", "_law_readings"] (spE G 3 R_z_has)) (h_whole_zone : Has P w G.K mg base "whole_zone" 8 ["clocks", "unit"] (spE G 2 R_whole_zone)) (h_has : HasM P w G.K mg base G.Z "has" 6 (spE G 2 R_has)) : FnOk P w G.K mg base CX0 10 f fd ["_law_dice_here"] (spR G 1 R_right) := by
  refine F.ok sc__law_right (fun vs H Q E h => h.1) (fun cdv A outer s H vs Q E hr h => ⟨_, (pss_cons (ps_asg (pe_tup (pa_cons (pe_op op_add pe_int (pe_fn h__law_roll hr (by decide) (pa_cons (pv 0) (pa_cons pe_int pa_nil)))) (pa_cons (pe_fn h__law_pick hr (by decide) (pa_cons (pv 0) (pa_cons (pe_lst (pa_cons pe_int (pa_cons pe_int (pa_cons pe_int (pa_cons pe_int (pa_cons pe_int (pa_cons pe_int pa_nil))))))) pa_nil))) pa_nil))) (Kv.pg_tupK G.K (n := 2) rfl (pgs_cons (pg_name (i := 1) sc__law_right.nd rfl (Or.inl rfl)) (pgs_cons (pg_name (i := 2) sc__law_right.nd rfl (Or.inr rfl)) pgs_nil))))
      (pss_cons (ps_set (i := 3) sc__law_right.nd rfl (Or.inl rfl) (pe_fn h__law_zw_drawn hr (by decide) (pa_cons (pv 0) (pa_cons (pv 1) (pa_cons (pv 2) pa_nil)))))
      (pss_cons (ps_set (i := 4) sc__law_right.nd rfl (Or.inl rfl) (pe_ifExp (pt_cmpR op_gt (pe_fn h__law_roll hr (by decide) (pa_cons (pv 0) (pa_cons pe_int pa_nil))) pe_int (nomark _)) (pe_fn h__law_bent hr (by decide) (pa_cons (pv 0) (pa_cons (pv 3) (pa_cons (pv 2) pa_nil)))) (pe_fn h__law_zw_drawn hr (by decide) (pa_cons (pv 0) (pa_cons (pv 1) (pa_cons (pv 2) pa_nil))))))
      (pss_cons (ps_par (i := 5) (j := 6) (by rfl) sc__law_right.nd rfl rfl (by decide) rfl rfl (pa_cons (pe_mk h_Zone hr (by decide) (pa_cons (pv 1) (pa_cons (pv 2) (pa_cons (pv 3) pa_nil)))) (pa_cons (pe_mk h_Zone hr (by decide) (pa_cons (pv 1) (pa_cons (pv 2) (pa_cons (pv 4) pa_nil)))) pa_nil)) (by rfl))
      (pss_cons (ps_par (i := 7) (j := 8) (by rfl) sc__law_right.nd rfl rfl (by decide) rfl rfl (pa_cons (pe_fn h__law_zw_closed hr (by decide) (pa_cons (pv 3) pa_nil)) (pa_cons (pe_fn h__law_zw_closed hr (by decide) (pa_cons (pv 4) pa_nil)) pa_nil)) (by rfl))
      (pss_cons (ps_par (i := 9) (j := 10) (by rfl) sc__law_right.nd rfl rfl (by decide) rfl rfl (pa_cons (pe_fn h__law_zw_within hr (by decide) (pa_cons (pv 7) (pa_cons (pv 8) pa_nil))) (pa_cons (pe_fn h__law_zw_within hr (by decide) (pa_cons (pv 8) (pa_cons (pv 7) pa_nil))) pa_nil)) (by rfl))
      (pss_cons (ps_if (PW.pt (pw_or (pt_cmpR op_ne (pe_callB call_reprB (by rfl) B.repr (by decide +kernel) (pa_cons (pe_mt h_is_within Z.c hr (by decide) (pv 5) (pa_cons (pv 6) pa_nil)) pa_nil)) (pe_callB call_reprB (by rfl) B.repr (by decide +kernel) (pa_cons (pv 9) pa_nil)) (nomark _)) (pw_or1 (pt_cmpR op_ne (pe_callB call_reprB (by rfl) B.repr (by decide +kernel) (pa_cons (pe_mt h_is_within Z.c hr (by decide) (pv 6) (pa_cons (pv 5) pa_nil)) pa_nil)) (pe_callB call_reprB (by rfl) B.repr (by decide +kernel) (pa_cons (pv 10) pa_nil)) (nomark _))))) (pss_one (ps_ret pe_bl)) pss_nil)
      (pss_cons (ps_if (pt_not (pt_val (pe_fn h__law_outside_right hr (by decide) (pa_cons (pv 2) (pa_cons (pv 3) (pa_cons (pv 4) (pa_cons (pe_mt h_outside Z.c hr (by decide) (pv 5) (pa_cons (pv 6) pa_nil)) (pa_cons (pv 9) pa_nil)))))))) (pss_one (ps_ret pe_bl)) pss_nil)
      (pss_cons (ps_if (pt_not (pt_val (pe_fn h__law_outside_right hr (by decide) (pa_cons (pv 2) (pa_cons (pv 4) (pa_cons (pv 3) (pa_cons (pe_mt h_outside Z.c hr (by decide) (pv 6) (pa_cons (pv 5) pa_nil)) (pa_cons (pv 10) pa_nil)))))))) (pss_one (ps_ret pe_bl)) pss_nil)
      (pss_cons (ps_set (i := 11) sc__law_right.nd rfl (Or.inl rfl) (pe_mt h_met Z.c hr (by decide) (pv 5) (pa_cons (pv 6) pa_nil)))
      (pss_cons (ps_if (PW.pt (pw_or (pt_cmpR (Kv.op_neDK G.K hr.units) (pe_pr h_bounds Z.c hr (by decide) (pv 11)) (pe_fn h__law_zw_closed hr (by decide) (pa_cons (pe_fn h__law_both hr (by decide) (pa_cons (pv 3) (pa_cons (pv 4) pa_nil))) pa_nil)) (nomark _)) (pw_or1 (pt_cmpR (op_neZ h_eq hr (by decide)) (pv 11) (pe_mt h_met Z.c hr (by decide) (pv 6) (pa_cons (pv 5) pa_nil)) (nomark _))))) (pss_one (ps_ret pe_bl)) pss_nil)
      (pss_cons (ps_if (pt_cmpR (Kv.op_neDK G.K hr.units) (pe_tup (pa_cons (pe_pr h_clocks Z.c hr (by decide) (pv 11)) (pa_cons (pe_pr h_unit Z.c hr (by decide) (pv 11)) pa_nil))) (pe_tup (pa_cons (pv 1) (pa_cons (pv 2) pa_nil))) (nomark _)) (pss_one (ps_ret pe_bl)) pss_nil)
      (pss_cons (ps_if (PW.pt (pw_or (pt_not (pt_val (pe_mt h_is_within Z.c hr (by decide) (pv 11) (pa_cons (pv 5) pa_nil)))) (pw_or1 (pt_cmpR op_ne (pe_cmpR (op_eqZ h_eq hr (by decide)) (pv 11) (pv 5) (nomark _)) (pe_mt h_is_within Z.c hr (by decide) (pv 5) (pa_cons (pv 6) pa_nil)) (nomark _))))) (pss_one (ps_ret pe_bl)) pss_nil)
      (pss_cons (ps_set (i := 12) sc__law_right.nd rfl (Or.inl rfl) (pe_fn h__law_pick hr (by decide) (pa_cons (pv 0) (pa_cons (pe_lst (pa_cons pe_int (pa_cons pe_int (pa_cons pe_int (pa_cons pe_int pa_nil))))) pa_nil))))
      (pss_cons (ps_set (i := 13) sc__law_right.nd rfl (Or.inl rfl) (pe_mt h_finer Z.c hr (by decide) (pv 5) (pa_cons (pv 12) pa_nil)))
      (pss_cons (ps_set (i := 14) sc__law_right.nd rfl (Or.inl rfl) (pe_ifExp (pt_cmpR op_isN (pv 7) pe_non (nomark _)) pe_non (pe_fn h__law_times hr (by decide) (pa_cons (pv 7) (pa_cons (pv 12) pa_nil)))))
      (pss_cons (ps_if (PW.pt (pw_or (pt_cmpR op_ne (pe_pr h_unit Z.c hr (by decide) (pv 13)) (pe_op op_mul (pv 2) (pv 12)) (nomark _)) (pw_or (pt_cmpR (Kv.op_neDK G.K hr.units) (pe_pr h_bounds Z.c hr (by decide) (pv 13)) (pv 14) (nomark _)) (pw_or1 (pt_cmpR op_ne (pe_pr h_is_empty Z.c hr (by decide) (pv 13)) (pe_pr h_is_empty Z.c hr (by decide) (pv 5)) (nomark _)))))) (pss_one (ps_ret pe_bl)) pss_nil)
      (pss_cons (ps_set (i := 16) sc__law_right.nd rfl (Or.inl rfl) (Kv.pe_tupleOfK G.K (by rfl) B.tuple (pe_lc rfl sc__law_right.nd (pi_range1 (by rfl) B.range (pa_cons (pv 1) pa_nil)) (blkOk_by (own := [("_law_clock", 15)]) (N := N__law_right) (sc := (defScope s__law_right)) (by decide +kernel)) (fun _ _ _ _ _ => (pg_name (i := 15) sc__law_right.nd rfl (Or.inl rfl))) (fun _ _ _ _ _ => pts_nil) (fun _ _ _ _ _ => (pe_fn h__law_zw_fraction hr (by decide) (pa_cons (pe_fn h__law_roll hr (by decide) (pa_cons (pv 0) (pa_cons (pe_op op_mul pe_int (pv 2)) pa_nil))) (pa_cons (pv 2) pa_nil)))))))
      (pss_cons (ps_set (i := 17) sc__law_right.nd rfl (Or.inl rfl) (pe_fn h_point_zone hr (by decide) (pa_cons (pv 16) (pa_cons (pv 2) pa_nil))))
      (pss_cons (ps_if (PW.pt (pw_or (pt_cmpR (Kv.op_neDK G.K hr.units) (pe_mt0 h_least Z.c hr (by decide) (pv 17)) (pv 16) (nomark _)) (pw_or1 (pt_cmpR (Kv.op_neDK G.K hr.units) (pe_mt h_edge Z.c hr (by decide) (pv 17) (pa_cons (pv 1) (pa_cons pe_int pa_nil))) (pv 16) (nomark _))))) (pss_one (ps_ret pe_bl)) pss_nil)
      (pss_cons (ps_if (pt_cmpR op_ne (pe_mt h_is_within Z.c hr (by decide) (pv 17) (pa_cons (pv 5) pa_nil)) (pe_fn h__law_zw_has hr (by decide) (pa_cons (pv 2) (pa_cons (pv 3) (pa_cons (pv 16) pa_nil)))) (nomark _)) (pss_one (ps_ret pe_bl)) pss_nil)
      (pss_cons (ps_set (i := 18) sc__law_right.nd rfl (Or.inl rfl) (pe_fn h_whole_zone hr (by decide) (pa_cons (pv 1) (pa_cons (pv 2) pa_nil))))
      (pss_cons (ps_if (PW.pt (pw_or (pt_not (pt_val (pe_mt h_is_within Z.c hr (by decide) (pv 5) (pa_cons (pv 18) pa_nil)))) (pw_or (pt_not (pt_val (pe_mt h_is_within Z.c hr (by decide) (pv 18) (pa_cons (pv 18) pa_nil)))) (pw_or1 (pt_cmpR (op_neZ h_eq hr (by decide)) (pe_mt h_met Z.c hr (by decide) (pv 5) (pa_cons (pv 18) pa_nil)) (pv 5) (nomark _)))))) (pss_one (ps_ret pe_bl)) pss_nil)
      (pss_one (ps_ret (pe_and (pe_mt h_has Z.c hr (by decide) (pv 18) (pa_cons (pv 16) pa_nil)) (pe_one (pe_cmpR (Kv.op_eqDK G.K hr.units) (pe_mt0 h_least Z.c hr (by decide) (pv 18)) (pe_op (Kv.op_repAK G.K) (pe_tup (pa_cons (pe_tup (pa_cons pe_int (pa_cons pe_int pa_nil))) pa_nil)) (pv 1)) (nomark _))))))))))))))))))))))))))))), ?_⟩)
  obtain ⟨_, d, S, es, Pp, hd, da, dm, rl, ⟨rfl, hP⟩, kk⟩ := h
  refine fn_runR hd da dm rl kk ?_
  have Z' : Zo { G with dd := some d } mg := Z.dd (some d)
  -- clocks, unit
  refine em_seq (N1 := fun ρ om => ∃ n u : Nat, (1 ≤ n ∧ n ≤ 3) ∧ (1 ≤ u ∧ u ≤ 16) ∧ ρ = rr n u none none none none none none none none none none none none none none none ∧ om = []) (em_asgTR (js := [1, 2]) rfl (er_tup (Pl := fun ds => ∃ n u : Nat, (1 ≤ n ∧ n ≤ 3) ∧ (1 ≤ u ∧ u ≤ 16) ∧ ds = [.int n, .int u]) (era_cons (er_op (R := fun e => ∃ n : Nat, e = eI n ∧ 1 ≤ n ∧ n ≤ 3) (er_ev ev_int) (roll_call (k := 3) (ev_var rfl) ev_int (by decide) (by decide)) ?_) (era_cons (er_call (P := fun e => ∃ u : Nat, e = eI u ∧ 1 ≤ u ∧ u ≤ 16) (era_cons (er_ev (ev_var rfl)) (era_cons (er_ev (El.ed (el_lst (ds := [.int 1, .int 1, .int 2, .int 3, .int 4, .int 16]) (ea_cons ev_int (ea_cons ev_int (ea_cons ev_int (ea_cons ev_int (ea_cons ev_int (ea_cons ev_int ea_nil)))))) (Nat.le_of_ble_eq_true rfl)))) era_nil)) ?_) era_nil)) ?_) ?_ (by simp [slots])) ?_
  · rintro x y rfl ⟨r, rfl, hr⟩
    exact ⟨_, ro_I0, 1 + r, by rw [Int.natCast_add]; rfl, by omega, by omega⟩
  · rintro es ⟨e, r, rfl, rfl, e2, r2, rfl, rfl, rfl⟩
    refine ⟨rfl, _, rfl, (by show 0 < 6; decide), (by show 6 ≤ 1000; decide), fun d hd => ?_⟩
    simp only [List.mem_cons, List.not_mem_nil, or_false] at hd
    rcases hd with rfl | rfl | rfl | rfl | rfl | rfl
    · exact ⟨1, rfl, by decide, by decide⟩
    · exact ⟨1, rfl, by decide, by decide⟩
    · exact ⟨2, rfl, by decide, by decide⟩
    · exact ⟨3, rfl, by decide, by decide⟩
    · exact ⟨4, rfl, by decide, by decide⟩
    · exact ⟨16, rfl, by decide, by decide⟩
  · rintro es ⟨e, r, rfl, ⟨n, rfl, h1, h2⟩, e2, r2, rfl, ⟨u, rfl, h3, h4⟩, rfl⟩
    exact ⟨[.int n, .int u], rfl, (by show 2 ≤ 1000; decide), n, u, ⟨h1, h2⟩, ⟨h3, h4⟩, rfl⟩
  · rintro e ⟨ds, ⟨n, u, hn, hu, rfl⟩, rfl⟩
    exact ⟨_, tg_2, n, u, hn, hu, rfl, rfl⟩
  rintro ρ om ⟨n, u, ⟨n1, n3⟩, ⟨u1, u16⟩, rfl, rfl⟩
  have u64 : u ≤ 64 := by omega
  have drawn : ∀ {ρ : Rho}, ρ[0]? = some (some .dice) → ρ[1]? = some (some (eI n)) → ρ[2]? = some (some (eI u)) → Er { G with dd := some d } (tCall (spR G 3 R_drawn) [] E0 (tCons (tVar 0) (tCons (tVar 1) (tCons (tVar 2) tNil)))) ρ (fun e => ∃ m : Mat, e = .dat (matD m) ∧ Sq (n + 1) m ∧ BdM 1001 m) := fun q0 q1 q2 => by
    refine er_call (era_cons (er_ev (ev_var q0)) (era_cons (er_ev (ev_var q1)) (era_cons (er_ev (ev_var q2)) era_nil))) ?_
    rintro es ⟨e, r, rfl, rfl, e2, r2, rfl, rfl, e3, r3, rfl, rfl, rfl⟩
    exact ⟨rfl, n, u, rfl, ⟨n1, n3⟩, ⟨u1, u64⟩, fun m sq hb => ⟨m, rfl, sq, hb.mono (by decide)⟩⟩
  -- bounds, other
  refine em_sasgR (P := fun e => ∃ m : Mat, e = .dat (matD m) ∧ Sq (n + 1) m ∧ BdM 1000 m) rfl ?_ (by simp [slots]) ?_
  · refine er_call (era_cons (er_ev (ev_var rfl)) (era_cons (er_ev (ev_var rfl)) (era_cons (er_ev (ev_var rfl)) era_nil))) ?_
    rintro es ⟨e, r, rfl, rfl, e2, r2, rfl, rfl, e3, r3, rfl, rfl, rfl⟩
    exact ⟨rfl, n, u, rfl, ⟨n1, n3⟩, ⟨u1, u64⟩, fun m sq hb => ⟨m, rfl, sq, hb⟩⟩
  rintro e ⟨m1, rfl, sq1, bd1⟩
  have wz1 : WZ n u m1 := ⟨n1, n3, u1, u64, sq1⟩
  refine em_sasgR (P := fun e => ∃ m : Mat, e = .dat (matD m) ∧ Sq (n + 1) m ∧ BdM 1001 m) rfl (er_if (ert_B (er_op (R := fun e => ∃ b, e = .dat (.bool b)) (roll_call (k := 3) (ev_var rfl) ev_int (by decide) (by decide)) (er_ev ev_int) ?_)) (er_call (era_cons (er_ev (ev_var rfl)) (era_cons (er_ev (ev_var rfl)) (era_cons (er_ev (ev_var rfl)) era_nil))) ?_) (drawn rfl rfl rfl)) (by simp [slots]) ?_
  · rintro x y ⟨r, rfl, hr⟩ rfl
    exact ⟨_, ro_B0, _, rfl⟩
  · rintro es ⟨e, r, rfl, rfl, e2, r2, rfl, rfl, e3, r3, rfl, rfl, rfl⟩
    exact ⟨rfl, n + 1, u, m1, rfl, sq1, by omega, bd1, ⟨u1, u64⟩, fun m sq hb => ⟨m, rfl, sq, hb⟩⟩
  rintro e ⟨m2, rfl, sq2, bd2⟩
  have wz2 : WZ n u m2 := ⟨n1, n3, u1, u64, sq2⟩
  -- first, second
  refine em_spar (rr n u (some (.dat (matD m1))) (some (.dat (matD m2))) (some (.zone n u m1)) (some (.zone n u m2)) none none none none none none none none none none none) (ea_cons (ev_mk (ea_cons (ev_var rfl) (ea_cons (ev_var rfl) (ea_cons (ev_var rfl) ea_nil))) ⟨n, u, m1, _, rfl, ⟨n1, n3⟩, ⟨u1, u64⟩, sq1, .inr ⟨rfl, bd1.short⟩, rfl⟩) (ea_cons (ev_mk (ea_cons (ev_var rfl) (ea_cons (ev_var rfl) (ea_cons (ev_var rfl) ea_nil))) ⟨n, u, m2, _, rfl, ⟨n1, n3⟩, ⟨u1, u64⟩, sq2, .inr ⟨rfl, bd2.short⟩, rfl⟩) ea_nil)) (by simp [slots]) (by simp [slots]) rfl ?_
  -- left, right
  refine em_spar (rr n u (some (.dat (matD m1))) (some (.dat (matD m2))) (some (.zone n u m1)) (some (.zone n u m2)) (some (.dat (clD (closedForm m1)))) (some (.dat (clD (closedForm m2)))) none none none none none none none none none) (ea_cons (ev_call (ea_cons (ev_var rfl) ea_nil) ⟨n + 1, m1, rfl, sq1, by omega, by rw [closedForm_eq sq1]⟩) (ea_cons (ev_call (ea_cons (ev_var rfl) ea_nil) ⟨n + 1, m2, rfl, sq2, by omega, by rw [closedForm_eq sq2]⟩) ea_nil)) (by simp [slots]) (by simp [slots]) rfl ?_
  have sqc : ∀ (m : Mat), Sq (n + 1) m → ∀ c, closedForm m = some c → Sq (n + 1) c := fun m sq c h => (closedForm_some sq h).1
  generalize hw12 : withinO (n + 1) (closedForm m1) (closedForm m2) = b12
  generalize hw21 : withinO (n + 1) (closedForm m2) (closedForm m1) = b21
  -- here, there
  refine em_spar (rr n u (some (.dat (matD m1))) (some (.dat (matD m2))) (some (.zone n u m1)) (some (.zone n u m2)) (some (.dat (clD (closedForm m1)))) (some (.dat (clD (closedForm m2)))) (some (eB b12)) (some (eB b21)) none none none none none none none) (ea_cons (ev_call (ea_cons (ev_var rfl) (ea_cons (ev_var rfl) ea_nil)) ⟨n + 1, _, _, rfl, sqc m1 sq1, sqc m2 sq2, by rw [hw12]⟩) (ea_cons (ev_call (ea_cons (ev_var rfl) (ea_cons (ev_var rfl) ea_nil)) ⟨n + 1, _, _, rfl, sqc m2 sq2, sqc m1 sq1, by rw [hw21]⟩) ea_nil)) (by simp [slots]) (by simp [slots]) rfl ?_
  refine em_sgate (et_orF (Et.to (et_test (ev_neS (ev_cb (ea_cons (ev_mt (ev_var rfl) (ea_cons (ev_var rfl) ea_nil) ⟨n, u, m1, m2, rfl, wz1, wz2, by rw [hw12]⟩) ea_nil) rc_repr) (ev_cb (ea_cons (ev_var rfl) ea_nil) rc_repr))) (by simp)) (Et.to (et_test (ev_neS (ev_cb (ea_cons (ev_mt (ev_var rfl) (ea_cons (ev_var rfl) ea_nil) ⟨n, u, m2, m1, rfl, wz2, wz1, by rw [hw21]⟩) ea_nil) rc_repr) (ev_cb (ea_cons (ev_var rfl) ea_nil) rc_repr))) (by simp))) ?_
  -- outside
  refine em_sgate (et_notT (et_test (ev_call (ea_cons (ev_var rfl) (ea_cons (ev_var rfl) (ea_cons (ev_var rfl) (ea_cons (ev_mt (y := outE n u m1 m2) (ev_var rfl) (ea_cons (ev_var rfl) ea_nil) ⟨n, u, m1, m2, rfl, wz1, wz2, rfl⟩ (hy := outE_nd wz1 wz2)) (ea_cons (ev_var rfl) ea_nil))))) ⟨n + 1, u, m1, m2, outE n u m1 m2, b12, rfl, sq1, sq2, by omega, ⟨by omega, by omega⟩, ?_, rfl⟩ (hd := nd5 (outE_nd wz1 wz2))))) ?_
  · rw [← hw12]
    exact out_ok wz1 wz2
  refine em_sgate (et_notT (et_test (ev_call (ea_cons (ev_var rfl) (ea_cons (ev_var rfl) (ea_cons (ev_var rfl) (ea_cons (ev_mt (y := outE n u m2 m1) (ev_var rfl) (ea_cons (ev_var rfl) ea_nil) ⟨n, u, m2, m1, rfl, wz2, wz1, rfl⟩ (hy := outE_nd wz2 wz1)) (ea_cons (ev_var rfl) ea_nil))))) ⟨n + 1, u, m2, m1, outE n u m2 m1, b21, rfl, sq2, sq1, by omega, ⟨by omega, by omega⟩, ?_, rfl⟩ (hd := nd5 (outE_nd wz2 wz1))))) ?_
  · rw [← hw21]
    exact out_ok wz2 wz1
  -- met
  generalize hmb : both (n + 1) m1 m2 = mb
  have sqb : Sq (n + 1) mb := by rw [← hmb]; exact sq_both _ _ _
  have wzb : WZ n u mb := ⟨n1, n3, u1, u64, sqb⟩
  have hmb' : both (n + 1) m2 m1 = mb := by rw [both_comm]; exact hmb
  refine em_sasg (rr n u (some (.dat (matD m1))) (some (.dat (matD m2))) (some (.zone n u m1)) (some (.zone n u m2)) (some (.dat (clD (closedForm m1)))) (some (.dat (clD (closedForm m2)))) (some (eB b12)) (some (eB b21)) (some (.zone n u mb)) none none none none none none) (ev_mt (ev_var rfl) (ea_cons (ev_var rfl) ea_nil) ⟨n, u, m1, m2, rfl, wz1, wz2, by rw [hmb]⟩) (by simp [slots]) rfl ?_
  refine em_sgate (et_orF (Et.to (et_test (ev_neD (ev_pr (ev_var rfl) ⟨n, u, mb, rfl, rfl⟩) (ev_call (y := .dat (clD (closedForm mb))) (ea_cons (ev_call (y := .dat (matD mb)) (ea_cons (ev_var rfl) (ea_cons (ev_var rfl) ea_nil)) ⟨n + 1, m1, m2, rfl, sq1, sq2, by omega, by rw [hmb]⟩) ea_nil) ⟨n + 1, mb, rfl, sqb, by omega, by rw [closedForm_eq sqb]⟩) (smd_cl (k := 0) _).shaped (smd_cl (k := 0) _).shaped)) (by rw [eqv_self (noB_cl _)]; rfl)) (Et.to (et_test (ev_op (ev_var rfl) (ev_mt (y := .zone n u mb) (ev_var rfl) (ea_cons (ev_var rfl) ea_nil) ⟨n, u, m2, m1, rfl, wz2, wz1, by rw [hmb']⟩) (ro_neZ Z' (b := decide ((n : Int) = n ∧ (u : Int) = u ∧ closedForm mb = closedForm mb)) ⟨n, u, n, u, mb, mb, rfl, rfl⟩))) (by simp))) ?_
  refine em_sgate (Et.to (et_test (ev_neD (ev_tup (ds := [.int n, .int u]) (ea_cons (ev_pr (ev_var rfl) ⟨n, u, mb, rfl, rfl⟩) (ea_cons (ev_pr (ev_var rfl) ⟨n, u, mb, rfl, rfl⟩) ea_nil)) (Nat.le_of_ble_eq_true rfl)) (ev_tup (ds := [.int n, .int u]) (ea_cons (ev_var rfl) (ea_cons (ev_var rfl) ea_nil)) (Nat.le_of_ble_eq_true rfl)) (smd_2 _ _) (smd_2 _ _))) (by rw [eqv_2]; rfl)) ?_
  have hmw : withinO (n + 1) (closedForm mb) (closedForm m1) = true := by rw [← hmb]; exact met_within sq1 sq2
  have hme : closedForm mb = closedForm m1 ↔ b12 = true := by rw [← hmb, ← hw12]; exact met_eq sq1 sq2
  refine em_sgate (et_orF (et_notT (et_test (ev_mt (ev_var rfl) (ea_cons (ev_var rfl) ea_nil) ⟨n, u, mb, m1, rfl, wzb, wz1, by rw [hmw]⟩))) (Et.to (et_test (ev_neB (ev_op (z := eB (decide ((n : Int) = n ∧ (u : Int) = u ∧ closedForm mb = closedForm m1))) (ev_var rfl) (ev_var rfl) (ro_eqZ Z' ⟨n, u, n, u, mb, m1, rfl, rfl⟩)) (ev_mt (y := eB b12) (ev_var rfl) (ea_cons (ev_var rfl) ea_nil) ⟨n, u, m1, m2, rfl, wz1, wz2, by rw [hw12]⟩))) (iff_b (by rw [decide_eq_true_eq, ← hme]; simp)))) ?_
  -- finer
  refine em_sasgR (P := fun e => ∃ t : Nat, e = eI t ∧ 1 ≤ t ∧ t ≤ 4) rfl (er_call (era_cons (er_ev (ev_var rfl)) (era_cons (er_ev (El.ed (el_lst (ds := [.int 1, .int 2, .int 3, .int 4]) (ea_cons ev_int (ea_cons ev_int (ea_cons ev_int (ea_cons ev_int ea_nil)))) (Nat.le_of_ble_eq_true rfl)))) era_nil)) ?_) (by simp [slots]) ?_
  · rintro es ⟨e, r, rfl, rfl, e2, r2, rfl, rfl, rfl⟩
    refine ⟨rfl, _, rfl, (by show 0 < 4; decide), (by show 4 ≤ 1000; decide), fun d hd => ?_⟩
    simp only [List.mem_cons, List.not_mem_nil, or_false] at hd
    rcases hd with rfl | rfl | rfl | rfl
    · exact ⟨1, rfl, by decide, by decide⟩
    · exact ⟨2, rfl, by decide, by decide⟩
    · exact ⟨3, rfl, by decide, by decide⟩
    · exact ⟨4, rfl, by decide, by decide⟩
  rintro e ⟨t, rfl, t1, t4⟩
  have hut : u * t ≤ 64 := Nat.le_trans (Nat.mul_le_mul u16 t4) (by decide)
  have ht0 : (0 : Int) < t := by omega
  have hsc : closedForm (scale t m1) = (closedForm m1).map (scale t) := closedForm_scale ht0 m1
  refine em_sasg (rr n u (some (.dat (matD m1))) (some (.dat (matD m2))) (some (.zone n u m1)) (some (.zone n u m2)) (some (.dat (clD (closedForm m1)))) (some (.dat (clD (closedForm m2)))) (some (eB b12)) (some (eB b21)) (some (.zone n u mb)) (some (eI t)) (some (.zone n ((u * t : Nat) : Int) (scale t m1))) none none none none) (ev_mt (ev_var rfl) (ea_cons (ev_var rfl) ea_nil) ⟨n, u, t, m1, rfl, wz1, t1, hut, rfl⟩) (by simp [slots]) rfl ?_
  refine em_sasg (rr n u (some (.dat (matD m1))) (some (.dat (matD m2))) (some (.zone n u m1)) (some (.zone n u m2)) (some (.dat (clD (closedForm m1)))) (some (.dat (clD (closedForm m2)))) (some (eB b12)) (some (eB b21)) (some (.zone n u mb)) (some (eI t)) (some (.zone n ((u * t : Nat) : Int) (scale t m1))) (some (.dat (clD ((closedForm m1).map (scale t))))) none none none) (x := .dat (clD ((closedForm m1).map (scale t)))) ?_ (by simp [slots]) rfl ?_
  · cases hc : closedForm m1 with
    | none => exact ev_ifT (et_test (ev_isNb (ev_var rfl))) ev_non
    | some c => exact ev_ifF (et_test (ev_isNb (ev_var rfl))) (ev_call (y := .dat (matD (scale t c))) (ea_cons (Ev.to (ev_var rfl) (y := .dat (matD c)) rfl) (ea_cons (ev_var rfl) ea_nil)) ⟨n + 1, c, t, rfl, sqc m1 sq1 c hc, by omega, ⟨ht0, by omega⟩, rfl⟩)
  refine em_sgate (et_orF (Et.to (et_test (ev_neI (ev_pr (y := eI ((u * t : Nat) : Int)) (ev_var rfl) ⟨n, _, _, rfl, rfl⟩) (ev_I (ev_var rfl) (ev_var rfl) (.inl ⟨by omega, by omega⟩)))) (by rw [Int.natCast_mul]; simp)) (et_orF (Et.to (et_test (ev_neD (ev_pr (y := .dat (clD ((closedForm m1).map (scale t)))) (ev_var rfl) ⟨n, _, _, rfl, by rw [hsc]⟩) (ev_var rfl) (smd_cl (k := 0) _).shaped (smd_cl (k := 0) _).shaped)) (by rw [eqv_self (noB_cl _)]; rfl)) (Et.to (et_test (ev_neB (ev_pr (y := eB (closedForm m1).isNone) (ev_var rfl) ⟨n, _, _, rfl, by rw [hsc]; cases closedForm m1 <;> rfl⟩) (ev_pr (y := eB (closedForm m1).isNone) (ev_var rfl) ⟨n, _, _, rfl, rfl⟩))) (by simp)))) ?_
  -- readings
  refine em_sasgR (P := fun e => ∃ xs : List Int, xs.length = n ∧ (∀ x ∈ xs, 0 ≤ x ∧ x ≤ 1000) ∧ e = .dat (rdD (rdOf (n + 1) u (ptL xs)))) rfl (Er.mono (er_tupleOf (Pl := fun ds => ∃ xs : List Int, ds = xs.map (fun x => frD (lowF x u)) ∧ xs.length = n ∧ ∀ x ∈ xs, 0 ≤ x ∧ x ≤ 1000) (Er.mono (Erl.ed (erl_lc (js := [15]) (l := List.range n) (enc := fun (i : Nat) => eI i) (fun _ d => ∃ x : Int, d = frD (lowF x u) ∧ 0 ≤ x ∧ x ≤ 1000) (sr_rng (ea_cons (ev_var rfl) ea_nil) (by omega)) (by rw [List.length_range]; omega) (by simp) fun i hi => ⟨_, tg_name, er_callE (era_cons (roll_call (k := 9 * u) (ev_var rfl) (Ev.to (ev_I ev_int (ev_var rfl) (.inl ⟨by decide, by decide⟩)) (by rw [Int.natCast_mul]; rfl)) (by omega) (by omega)) (era_cons (er_ev (ev_var rfl)) era_nil)) ?_⟩)) ?_)) ?_) (by simp [slots]) ?_
  · rintro es ⟨e, r, rfl, ⟨x, rfl, hx⟩, e2, r2, rfl, rfl, rfl⟩
    exact ⟨rfl, rfl, .dat (frD (lowF x u)), ⟨x, u, rfl, by omega, u64, rfl⟩, rfl, frD (lowF x u), rfl, x, rfl, by omega, by omega⟩
  · rintro e ⟨ds, h, rfl⟩
    obtain ⟨xs, rfl, hl, hb⟩ := all2_ex h
    rw [List.length_range] at hl
    exact ⟨_, ⟨xs, rfl, hl, hb⟩, rfl⟩
  · rintro e ⟨ds, ⟨xs, rfl, hl, hb⟩, rfl⟩
    refine ⟨xs, hl, hb, ?_⟩
    rw [ptL_rd hl]
    unfold rdD
    rw [List.map_map]
    rfl
  rintro e ⟨xs, hxl, hxb, rfl⟩
  have ptp := ptL_pt hxl hxb
  have rdl : (rdOf (n + 1) u (ptL xs)).length = n := by rw [rdOf_len]; rfl
  have rdk := ptL_ok (n := n) hxl hxb (show 0 < u by omega) u64
  have hpm : ptMat (n + 1) (ptOf (rdOf (n + 1) u (ptL xs)) u) = ptMat (n + 1) (ptL xs) := ptOf_rdOf ptp.zero (by omega)
  have hcp : closedForm (ptMat (n + 1) (ptL xs)) = some (ptMat (n + 1) (ptL xs)) := closedForm_pt ptp
  have wzp : WZ n u (ptMat (n + 1) (ptL xs)) := ⟨n1, n3, u1, u64, sq_tab _ _⟩
  refine em_sasg (rr n u (some (.dat (matD m1))) (some (.dat (matD m2))) (some (.zone n u m1)) (some (.zone n u m2)) (some (.dat (clD (closedForm m1)))) (some (.dat (clD (closedForm m2)))) (some (eB b12)) (some (eB b21)) (some (.zone n u mb)) (some (eI t)) (some (.zone n ((u * t : Nat) : Int) (scale t m1))) (some (.dat (clD ((closedForm m1).map (scale t))))) (some (.dat (rdD (rdOf (n + 1) u (ptL xs))))) (some (.zone n u (ptMat (n + 1) (ptL xs)))) none) (x := .zone n u (ptMat (n + 1) (ptL xs))) (ev_call (ea_cons (ev_var rfl) (ea_cons (ev_var rfl) ea_nil)) ⟨u, rdOf (n + 1) u (ptL xs), rfl, by omega, by omega, u1, u64, rdk, by rw [rdl, hpm]⟩) (by simp [slots]) rfl ?_
  obtain ⟨fe, hfe, hfl⟩ := edge_pt ptp (i := n) (j := 0) (by omega) (by omega)
  have hent : ent (ptMat (n + 1) (ptL xs)) n 0 = some (ptL xs n - ptL xs 0) := by
    unfold ptMat
    rw [ent_tab (by omega) (by omega)]
  refine em_sgate (et_orF (Et.to (et_test (ev_neD (ev_mt (y := .dat (rdD (rdOf (n + 1) u (ptL xs)))) (ev_var rfl) ea_nil ⟨n, u, _, _, rfl, wzp, hcp, by rw [rdOf_congr fun k hk => least_ptMat ptp.zero hk]⟩) (ev_var rfl) (smd_rd (k := 0) _).shaped (smd_rd (k := 0) _).shaped)) (by rw [eqv_self (noB_rd _)]; rfl)) (Et.to (et_test (ev_neD (ev_mt (y := .dat (rdD (rdOf (n + 1) u (ptL xs)))) (ev_var rfl) (ea_cons (ev_var rfl) (ea_cons ev_int ea_nil)) ⟨n, u, _, _, fe, n, 0, _, rfl, wzp, hcp, by omega, by omega, hent, hfe, by rw [rdOf_congr hfl]⟩) (ev_var rfl) (smd_rd (k := 0) _).shaped (smd_rd (k := 0) _).shaped)) (by rw [eqv_self (noB_rd _)]; rfl))) ?_
  have hud : Und (rdOf (n + 1) u (ptL xs)) := fun p hp => (rdk p hp).1.2.1
  refine em_sgate (Et.to (et_test (ev_neB (ev_mt (y := eB (withinO (n + 1) (closedForm (ptMat (n + 1) (ptL xs))) (closedForm m1))) (ev_var rfl) (ea_cons (ev_var rfl) ea_nil) ⟨n, u, _, m1, rfl, wzp, wz1, rfl⟩) (ev_call (y := eB (hasB (n + 1) u m1 (rdOf (n + 1) u (ptL xs)))) (ea_cons (ev_var rfl) (ea_cons (ev_var rfl) (ea_cons (ev_var rfl) ea_nil))) ⟨n + 1, u, m1, _, rfl, sq1, by omega, ⟨by omega, by omega⟩, hud, by rw [rdl], rfl⟩))) (iff_b (by rw [hcp, pt_within ptp sq1, has_iff ptp.zero (by omega)]))) ?_
  -- the zone of all readings
  have wzw : WZ n u (wholeMat (n + 1)) := ⟨n1, n3, u1, u64, sq_tab _ _⟩
  refine em_sasg (rr n u (some (.dat (matD m1))) (some (.dat (matD m2))) (some (.zone n u m1)) (some (.zone n u m2)) (some (.dat (clD (closedForm m1)))) (some (.dat (clD (closedForm m2)))) (some (eB b12)) (some (eB b21)) (some (.zone n u mb)) (some (eI t)) (some (.zone n ((u * t : Nat) : Int) (scale t m1))) (some (.dat (clD ((closedForm m1).map (scale t))))) (some (.dat (rdD (rdOf (n + 1) u (ptL xs))))) (some (.zone n u (ptMat (n + 1) (ptL xs)))) (some (.zone n u (wholeMat (n + 1))))) (ev_call (ea_cons (ev_var rfl) (ea_cons (ev_var rfl) ea_nil)) ⟨n, u, rfl, n1, n3, u1, u64, rfl⟩) (by simp [slots]) rfl ?_
  have hww : ∀ (m : Mat), Sq (n + 1) m → withinO (n + 1) (closedForm m) (closedForm (wholeMat (n + 1))) = true := fun m sq => within_whole (Nat.succ_pos n) sq
  refine em_sgate (et_orF (et_notT (et_test (ev_mt (ev_var rfl) (ea_cons (ev_var rfl) ea_nil) ⟨n, u, m1, _, rfl, wz1, wzw, by rw [hww m1 sq1]⟩))) (et_orF (et_notT (et_test (ev_mt (ev_var rfl) (ea_cons (ev_var rfl) ea_nil) ⟨n, u, _, _, rfl, wzw, wzw, by rw [hww _ wzw.sq]⟩))) (Et.to (et_test (ev_op (ev_mt (y := .zone n u (both (n + 1) m1 (wholeMat (n + 1)))) (ev_var rfl) (ea_cons (ev_var rfl) ea_nil) ⟨n, u, m1, _, rfl, wz1, wzw, rfl⟩) (ev_var rfl) (ro_neZ Z' (b := decide ((n : Int) = n ∧ (u : Int) = u ∧ closedForm (both (n + 1) m1 (wholeMat (n + 1))) = closedForm m1)) ⟨n, u, n, u, _, m1, rfl, rfl⟩))) (by rw [(met_eq sq1 wzw.sq).mpr (hww m1 sq1)]; simp)))) ?_
  obtain ⟨wc, hwc, hwl⟩ := whole_least (n := n + 1) (Nat.succ_pos n)
  refine em_ret (x := eB true) (ev_andT (ev_mt (ev_var rfl) (ea_cons (ev_var rfl) ea_nil) ⟨n, u, _, _, rfl, wzw, rdl, fun p hp => (rdk p hp).1, by rw [(has_iff ptp.zero (by omega) _).mpr (whole_keeps _ _)]⟩) (Ev.to (ev_eqD (ev_mt (y := .dat (rdD (List.replicate n (0, 1)))) (ev_var rfl) ea_nil ⟨n, u, _, wc, rfl, wzw, hwc, by rw [whole_rd (Nat.succ_pos n) (by omega) hwl]; rfl⟩) (Ev.to (ev_op (ev_tup (ds := [.tuple [.int 0, .int 1]]) (ea_cons (ev_tup (ds := [.int 0, .int 1]) (ea_cons ev_int (ea_cons ev_int ea_nil)) (Nat.le_of_ble_eq_true rfl)) ea_nil) (Nat.le_of_ble_eq_true rfl)) (ev_var rfl) (ro_repA (by simp) (Nat.le_of_ble_eq_true rfl) n1 (by omega))) (y := .dat (rdD (List.replicate n (0, 1)))) ?_) (smd_rd (k := 0) _).shaped (smd_rd (k := 0) _).shaped) (by rw [eqv_self (noB_rd _)]))) hP
  rw [rep_flat]
  unfold rdD
  rw [List.map_replicate]
  rfl
end
end Ek
end

section
set_option Elab.async false
set_option linter.all false
set_option maxRecDepth 100000
set_option maxHeartbeats 4000000
namespace Ek
open PySem PySem.Spec PyProof.Rows L2 K18
open Evl (Ex ex_rd ex_l ex_t fresh_back sz_of sz_lt)
def spLaw (G : Gd) : Sp := fun vs H Q _ => ∃ (a : Addr) (ns : List Int), vs = [.ref a] ∧ SqL G.K H a (ns.map V.int) ∧ ns.length ≤ 63 ∧ ∀ H', Q (.bl true) H'
theorem dp_ints {K : PySem.W.Frag} {H : Hp} : ∀ ns : List Int, DpAll K H (ns.map V.int) (ns.map PyData.int)
  | [] => .nil
  | n :: ns => .cons (.int n) (dp_ints ns)
theorem vw_nil {H : Hp} : vw [] H = H := funext fun a => vw_out (by simp)
/-- the dice are made: an own list of three -/
theorem em_newD {G : Gd} {ρ : Rho} {om : Om} {R : Ent → Prop} {N : Rho → Om → Prop} {tr : TA} {i spot : Nat} {ns : List Int} (h : Ea G tr ρ [.dat (.list (ns.map .int)), eI spot]) (hi : i ∉ slots om) (hl : i < ρ.length) (hN : ∀ x y z : Int, N (ρ.set i none) ((i, [.int x, .int y, .int z]) :: om)) :
    Em G (tAsg (tCall (spDice G) [] E0 tr) (gName i)) ρ om R N := fun S0 Hb D hr hn σ H ⟨ls, s⟩ => h _ σ H s.env _ fun vs H1 e1 r1 => by
  have s1 := s.ex e1
  rw [List.append_nil]
  refine ⟨Paired.length r1, ls ++ S0, ns, spot, s1.env.dom, repL_dd rfl r1, fun p x y z H' hp e2 hx => ?_⟩
  exact hn _ _ _ _ (hN x y z) ⟨p :: ls, s1.newList hp e2 hx (.cons (.int _) (.cons (.int _) (.cons (.int _) .nil))) hi hl⟩
def mA : Mat := [[some 0, some 0, some (-1)], [some 4, some 0, none], [none, some 1, some 0]]
def mB : Mat := [[some 0, some 0, some 0], [some (-1), some 0, some 0], [none, none, some 0]]
theorem sqA : Sq 3 mA := ⟨rfl, by decide⟩
theorem sqB : Sq 3 mB := ⟨rfl, by decide⟩
theorem bdA : BdM 1000 mA := fun r hr o ho x hx => by
  have : ∀ r ∈ mA, ∀ o ∈ r, -1000 ≤ o.getD 0 ∧ o.getD 0 ≤ 1000 := by decide
  have := this r hr o ho
  rw [hx] at this
  exact this
theorem bdB : BdM 1000 mB := fun r hr o ho x hx => by
  have : ∀ r ∈ mB, ∀ o ∈ r, -1000 ≤ o.getD 0 ∧ o.getD 0 ≤ 1000 := by decide
  have := this r hr o ho
  rw [hx] at this
  exact this
theorem cA : ∃ c, closedForm mA = some c := by
  have : (closedForm mA).isSome = true := by decide +kernel
  exact Option.isSome_iff_exists.mp this
theorem cB : closedForm mB = none := by decide +kernel
theorem w1 : withinO 3 (closedForm (wholeMat 3)) (closedForm mA) = false := by decide +kernel
theorem w2 : withinO 3 (closedForm mB) (closedForm mA) = true := by decide +kernel
theorem w3 : withinO 3 (closedForm mA) (closedForm mB) = false := by decide +kernel
theorem o1 : outE 2 2 mB mA = eN := by
  unfold outE
  rw [cB]
theorem cW : closedForm (wholeMat 2) = some [[some 0, some 0], [none, some 0]] := by decide +kernel
theorem wzA : WZ 2 2 mA := ⟨by decide, by decide, by decide, by decide, sqA⟩
theorem wzB : WZ 2 2 mB := ⟨by decide, by decide, by decide, by decide, sqB⟩
theorem wzW : WZ 2 2 (wholeMat 3) := ⟨by decide, by decide, by decide, by decide, sq_tab _ _⟩
section
variable {P : Program} {w : World} {mg : Str → Option Value} {base : Heap} {G : Gd}
theorem rng_law (n : Nat) (h : n ≤ 63) : ∃ k : Nat, k ≤ 3 ∧ (if (if ((n : Nat) : Int) < 3 then ((n : Nat) : Int) else 3) > 1 then (if ((n : Nat) : Int) < 3 then ((n : Nat) : Int) else 3) else 1) = (k : Int) := by
  by_cases h1 : (n : Int) < 3
  · rw [if_pos h1]
    by_cases h2 : (n : Int) > 1
    · exact ⟨n, by omega, by rw [if_pos h2]⟩
    · exact ⟨1, by omega, by rw [if_neg h2]; rfl⟩
  · rw [if_neg h1]
    exact ⟨3, by omega, rfl⟩
abbrev s_law : Stmt := (topS 70)
abbrev N_law : List Str := ["_law_script", "_law_spot", "_law_dice_here", "_law_turn", "_law_zone", "_law_none", "_law_told"]
theorem sc_law : FnScope N_law ["_law_script"] (defScope s_law) := ⟨rfl, rfl, rfl, by decide +kernel, rfl, by decide +kernel, by decide +kernel⟩
theorem ok_law {f : Addr} {fd : FuncData} (F : Fun G.K "law" "law" s_law f fd) (B : Bi mg) (Z : Zo G mg) (h__law_dice : Has P w G.K mg base "_law_dice" 1 ["_law_script", "_law_spot"] (spDice G)) (h__law_right : Has P w G.K mg base "_law_right" 10 ["_law_dice_here"] (spR G 1 R_right)) (h_Zone : HasI P w G.K mg base "Zone" G.Z 6 ["self", "clocks", "unit", "bounds"] (spI G G.Z 3 R_zi)) (h_whole_zone : Has P w G.K mg base "whole_zone" 8 ["clocks", "unit"] (spE G 2 R_whole_zone)) (h_is_within : HasM P w G.K mg base G.Z "is_within" 3 (spE G 2 R_is_within)) (h_outside : HasM P w G.K mg base G.Z "outside" 6 (spE G 2 R_outside)) (h_is_empty : HasP P w G.K mg base G.Z "is_empty" 1 (spE G 1 R_is_empty)) (h_finer : HasM P w G.K mg base G.Z "finer" 9 (spE G 2 R_finer)) (h_unit : HasP P w G.K mg base G.Z "unit" 1 (spE G 1 R_unit)) (h_bounds : HasP P w G.K mg base G.Z "bounds" 1 (spE G 1 R_bnds)) : FnOk P w G.K mg base CX0 11 f fd ["_law_script"] (spLaw G) := by
  refine F.ok sc_law (fun vs H Q E h => ?_) (fun cdv A outer s H vs Q E hr h => ⟨_, (pss_cons (ps_for PassesOwn.never rfl (pi_range1 (by rfl) B.range (pa_cons (pe_callB (call_max2 rfl) (by rfl) B.max (by decide +kernel) (pa_cons pe_int (pa_cons (pe_callB (call_min2 rfl) (by rfl) B.min (by decide +kernel) (pa_cons pe_int (pa_cons (pe_callB (Kv.call_lenK G.K) (by rfl) B.len (by decide +kernel) (pa_cons (pv 0) pa_nil)) pa_nil))) pa_nil))) pa_nil)) (pg_name (i := 1) sc_law.nd rfl (Or.inl rfl)) (pss_cons (ps_set (i := 2) sc_law.nd rfl (Or.inl rfl) (pe_fn h__law_dice hr (by decide) (pa_cons (pv 0) (pa_cons (pv 1) pa_nil))))
      (pss_one (ps_for PassesOwn.never rfl (pi_range1 (by rfl) B.range (pa_cons pe_int pa_nil)) (pg_name (i := 3) sc_law.nd rfl (Or.inl rfl)) (pss_one (ps_if (pt_not (pt_val (pe_fn h__law_right hr (by decide) (pa_cons (pv 2) pa_nil)))) (pss_one (ps_ret pe_bl)) pss_nil))))))
      (pss_cons (ps_par (i := 4) (j := 5) (by rfl) sc_law.nd rfl rfl (by decide) rfl rfl (pa_cons (pe_mk h_Zone hr (by decide) (pa_cons pe_int (pa_cons pe_int (pa_cons (pe_tup (pa_cons (pe_tup (pa_cons pe_int (pa_cons pe_int (pa_cons (pe_un un_neg pe_int) pa_nil)))) (pa_cons (pe_tup (pa_cons pe_int (pa_cons pe_int (pa_cons pe_non pa_nil)))) (pa_cons (pe_tup (pa_cons pe_non (pa_cons pe_int (pa_cons pe_int pa_nil)))) pa_nil)))) pa_nil)))) (pa_cons (pe_mk h_Zone hr (by decide) (pa_cons pe_int (pa_cons pe_int (pa_cons (pe_tup (pa_cons (pe_tup (pa_cons pe_int (pa_cons pe_int (pa_cons pe_int pa_nil)))) (pa_cons (pe_tup (pa_cons (pe_un un_neg pe_int) (pa_cons pe_int (pa_cons pe_int pa_nil)))) (pa_cons (pe_tup (pa_cons pe_non (pa_cons pe_non (pa_cons pe_int pa_nil)))) pa_nil)))) pa_nil)))) pa_nil)) (by rfl))
      (pss_cons (ps_set (i := 6) sc_law.nd rfl (Or.inl rfl) (pe_lst (pa_cons (pe_mt h_is_within Z.c hr (by decide) (pe_fn h_whole_zone hr (by decide) (pa_cons pe_int (pa_cons pe_int pa_nil))) (pa_cons (pv 4) pa_nil)) (pa_cons (pe_mt h_is_within Z.c hr (by decide) (pv 5) (pa_cons (pv 4) pa_nil)) (pa_cons (pe_mt h_is_within Z.c hr (by decide) (pv 4) (pa_cons (pv 5) pa_nil)) (pa_cons (pe_mt h_outside Z.c hr (by decide) (pv 5) (pa_cons (pv 4) pa_nil)) (pa_cons (pe_pr h_is_empty Z.c hr (by decide) (pv 5)) pa_nil)))))))
      (pss_one (ps_ret (pe_and (pe_cmpR (Kv.op_eqDK G.K hr.units) (pv 6) (pe_lst (pa_cons pe_bl (pa_cons pe_bl (pa_cons pe_bl (pa_cons pe_non (pa_cons pe_bl pa_nil)))))) (nomark _)) (pe_and (pe_cmpR op_eq (pe_pr h_unit Z.c hr (by decide) (pe_mt h_finer Z.c hr (by decide) (pv 4) (pa_cons pe_int pa_nil))) pe_int (nomark _)) (pe_one (pe_cmpR (Kv.op_eqDK G.K hr.units) (pe_pr h_bounds Z.c hr (by decide) (pe_fn h_whole_zone hr (by decide) (pa_cons pe_int (pa_cons pe_int pa_nil)))) (pe_tup (pa_cons (pe_tup (pa_cons pe_int (pa_cons pe_int pa_nil))) (pa_cons (pe_tup (pa_cons pe_non (pa_cons pe_int pa_nil))) pa_nil))) (nomark _)))))))))), ?_⟩)
  · obtain ⟨a, ns, rfl, _⟩ := h
    rfl
  obtain ⟨a, ns, rfl, hS, hl, kk⟩ := h
  obtain ⟨kr, hk3, hkr⟩ := rng_law ns.length hl
  have Z' : Zo { G with dd := none } mg := Z.nod
  refine fn_run (S := []) (es := [.dat (.list (ns.map .int))]) (y := eB true) (fun _ z => by simp at z) (.cons (by rw [vw_nil]; exact .lst hS (dp_ints ns)) .nil) (fun v H' e r => by cases dp_bool r; exact kk H') ?_
  let sc : Option Ent := some (.dat (.list (ns.map .int)))
  let St : Nat → Rho → Om → Prop := fun _ ρ om => (∃ r1 r3, ρ = [sc, r1, none, r3, none, none, none]) ∧ om = []
  refine em_seq (N1 := St 0) (em_for (js := [1]) (xs := (List.range kr).map fun (i : Nat) => eI i) (sr_rng (n := kr) (ea_cons (Ev.to (ev_cb (ea_cons ev_int (ea_cons (ev_cb (ea_cons ev_int (ea_cons (ev_cb (ea_cons (ev_var rfl) ea_nil) rc_lenL) ea_nil)) rc_min2) ea_nil)) rc_max2) ?_) ea_nil) (by omega)) St ⟨⟨_, _, rfl⟩, rfl⟩ ?_ fun ρ om h => h) ?_
  · rw [List.length_map]
    exact congrArg eI hkr
  · rintro i e ρ om hi ⟨⟨r1, r3, rfl⟩, rfl⟩
    obtain ⟨hi1, rfl⟩ := rg_get hi
    refine ⟨by simp [slots], _, tg_name, ?_⟩
    let Sd : Nat → Rho → Om → Prop := fun _ ρ om => (∃ r3, ρ = [sc, some (eI i), none, r3, none, none, none]) ∧ ∃ x y z : Int, om = [(2, [.int x, .int y, .int z])]
    refine em_seq (N1 := Sd 0) (em_newD (i := 2) (ea_cons (ev_var rfl) (ea_cons (ev_var rfl) ea_nil)) (by simp [slots]) (by show 2 < 7; decide) fun x y z => ⟨⟨_, rfl⟩, x, y, z, rfl⟩) ?_
    rintro ρ om ⟨⟨r3, rfl⟩, x, y, z, rfl⟩
    refine em_post (N' := Sd 0) (em_for (js := [3]) (xs := (List.range 4).map fun (i : Nat) => eI i) (sr_rng (n := 4) (ea_cons ev_int ea_nil) (by decide)) Sd ⟨⟨_, rfl⟩, x, y, z, rfl⟩ ?_ fun ρ om h => h) fun ρ om h => ?_
    · rintro j e ρ om hj ⟨⟨r3, rfl⟩, x, y, z, rfl⟩
      obtain ⟨hj1, rfl⟩ := rg_get hj
      exact ⟨by simp [slots], _, tg_name, em_roll (Rr := R_right) ⟨rfl, rfl⟩ fun x y z => ⟨⟨_, rfl⟩, x, y, z, rfl⟩⟩
    · obtain ⟨⟨r3, rfl⟩, x, y, z, rfl⟩ := h
      exact ⟨_, _, _, rfl, ⟨_, _, rfl⟩, rfl⟩
  rintro ρ om ⟨⟨r1, r3, rfl⟩, rfl⟩
  refine em_spar [sc, r1, none, r3, some (.zone 2 2 mA), some (.zone 2 2 mB), none] (x := .zone 2 2 mA) (y := .zone 2 2 mB) (ea_cons (ev_mk (ea_cons ev_int (ea_cons ev_int (ea_cons (ev_tup (ds := [rowD [some 0, some 0, some (-1)], rowD [some 4, some 0, none], rowD [none, some 1, some 0]]) (ea_cons (ev_tup (ds := [.int 0, .int 0, .int (-1)]) (ea_cons ev_int (ea_cons ev_int (ea_cons (ev_neg ev_int) ea_nil))) (Nat.le_of_ble_eq_true rfl)) (ea_cons (ev_tup (ds := [.int 4, .int 0, .none]) (ea_cons ev_int (ea_cons ev_int (ea_cons ev_non ea_nil))) (Nat.le_of_ble_eq_true rfl)) (ea_cons (ev_tup (ds := [.none, .int 1, .int 0]) (ea_cons ev_non (ea_cons ev_int (ea_cons ev_int ea_nil))) (Nat.le_of_ble_eq_true rfl)) ea_nil))) (Nat.le_of_ble_eq_true rfl)) ea_nil))) ⟨2, 2, mA, _, rfl, by decide, by decide, sqA, .inr ⟨rfl, bdA.short⟩, rfl⟩)
    (ea_cons (ev_mk (ea_cons ev_int (ea_cons ev_int (ea_cons (ev_tup (ds := [rowD [some 0, some 0, some 0], rowD [some (-1), some 0, some 0], rowD [none, none, some 0]]) (ea_cons (ev_tup (ds := [.int 0, .int 0, .int 0]) (ea_cons ev_int (ea_cons ev_int (ea_cons ev_int ea_nil))) (Nat.le_of_ble_eq_true rfl)) (ea_cons (ev_tup (ds := [.int (-1), .int 0, .int 0]) (ea_cons (ev_neg ev_int) (ea_cons ev_int (ea_cons ev_int ea_nil))) (Nat.le_of_ble_eq_true rfl)) (ea_cons (ev_tup (ds := [.none, .none, .int 0]) (ea_cons ev_non (ea_cons ev_non (ea_cons ev_int ea_nil))) (Nat.le_of_ble_eq_true rfl)) ea_nil))) (Nat.le_of_ble_eq_true rfl)) ea_nil))) ⟨2, 2, mB, _, rfl, by decide, by decide, sqB, .inr ⟨rfl, bdB.short⟩, rfl⟩) ea_nil)) (by simp [slots]) (by simp [slots]) rfl ?_
  let tl : PyData := .list [.bool false, .bool true, .bool false, .none, .bool true]
  refine em_sasg [sc, r1, none, r3, some (.zone 2 2 mA), some (.zone 2 2 mB), some (.dat tl)] (x := .dat tl) (El.ed (el_lst (ds := [.bool false, .bool true, .bool false, .none, .bool true]) (ea_cons (ev_mt (y := eB false) (ev_call (y := .zone 2 2 (wholeMat 3)) (ea_cons ev_int (ea_cons ev_int ea_nil)) ⟨2, 2, rfl, by decide, by decide, by decide, by decide, rfl⟩) (ea_cons (ev_var rfl) ea_nil) ⟨2, 2, wholeMat 3, mA, rfl, wzW, wzA, by rw [w1]⟩) (ea_cons (ev_mt (y := eB true) (ev_var rfl) (ea_cons (ev_var rfl) ea_nil) ⟨2, 2, mB, mA, rfl, wzB, wzA, by rw [w2]⟩) (ea_cons (ev_mt (y := eB false) (ev_var rfl) (ea_cons (ev_var rfl) ea_nil) ⟨2, 2, mA, mB, rfl, wzA, wzB, by rw [w3]⟩) (ea_cons (ev_mt (y := eN) (ev_var rfl) (ea_cons (ev_var rfl) ea_nil) ⟨2, 2, mB, mA, rfl, wzB, wzA, o1.symm⟩) (ea_cons (ev_pr (y := eB true) (ev_var rfl) ⟨2, 2, mB, rfl, by rw [cB]; rfl⟩) ea_nil))))) (Nat.le_of_ble_eq_true rfl))) (by simp [slots]) rfl ?_
  refine em_ret (x := eB true) (ev_andT (Ev.to (ev_eqD (e := tl) (ev_var rfl) (El.ed (el_lst (ds := [.bool false, .bool true, .bool false, .none, .bool true]) (ea_cons ev_bl (ea_cons ev_bl (ea_cons ev_bl (ea_cons ev_non (ea_cons ev_bl ea_nil))))) (Nat.le_of_ble_eq_true rfl))) rfl rfl) rfl) (ev_andT (Ev.to (ev_eqI (ev_pr (y := eI 64) (ev_mt (y := .zone 2 ((2 * 32 : Nat) : Int) (scale 32 mA)) (ev_var rfl) (ea_cons ev_int ea_nil) ⟨2, 2, 32, mA, rfl, wzA, by decide, by decide, rfl⟩) ⟨2, 64, _, rfl, rfl⟩) ev_int) rfl) (Ev.to (ev_eqD (d := clD (some [[some 0, some 0], [none, some 0]])) (ev_pr (ev_call (y := .zone 1 5 (wholeMat 2)) (ea_cons ev_int (ea_cons ev_int ea_nil)) ⟨1, 5, rfl, by decide, by decide, by decide, by decide, rfl⟩) ⟨1, 5, wholeMat 2, rfl, by rw [cW]⟩) (ev_tup (ds := [.tuple [.int 0, .int 0], .tuple [.none, .int 0]]) (ea_cons (ev_tup (ds := [.int 0, .int 0]) (ea_cons ev_int (ea_cons ev_int ea_nil)) (Nat.le_of_ble_eq_true rfl)) (ea_cons (ev_tup (ds := [.none, .int 0]) (ea_cons ev_non (ea_cons ev_int ea_nil)) (Nat.le_of_ble_eq_true rfl)) ea_nil)) (Nat.le_of_ble_eq_true rfl)) rfl rfl) rfl))) rfl
end
end Ek
end

section
set_option Elab.async false
set_option linter.all false
set_option maxRecDepth 100000
set_option maxHeartbeats 4000000
namespace Ek
open PySem PySem.Spec PyProof.Rows L2 K18
open Evl (Ex ex_rd ex_l ex_t fresh_back sz_of sz_lt)
theorem kit_self {K : PySem.W.Frag} {C : Addr} : PySem.W.kitOne K (.ref C) (.ref C) = some true := if_pos (beq_self_eq_true (Value.ref C))
theorem kit_tup {K : PySem.W.Frag} {C : Addr} (ic : PySem.W.isClsIn K C = true) (ty : PySem.W.typeIn K (.ref C) = some (.type "type")) (sb : PySem.W.subIn K (.type "tuple") (.ref C) = some false) : PySem.W.kitOne K (.type "tuple") (.ref C) = some false := by
  unfold PySem.W.kitOne
  rw [if_neg (show ¬ ((Value.type "tuple" == Value.ref C) = true) from fun z => nomatch beq_iff_eq.mp z)]
  unfold PySem.W.kitCls
  have e : ((PySem.W.clsIn K C).isSome && PySem.W.typeIn K (.ref C) == some (.type "type")) = true := by
    rw [show (PySem.W.clsIn K C).isSome = true from ic, ty]
    exact beq_self_eq_true (some (Value.type "type"))
  show (if ((PySem.W.clsIn K C).isSome && PySem.W.typeIn K (.ref C) == some (.type "type")) = true then PySem.W.subIn K (.type "tuple") (.ref C) else none) = some false
  rw [if_pos e]
  exact sb
theorem all_mk {l : PySem.W.OpenLaw} {w : World} {K : PySem.W.Frag} {h : Heap} {mg : Str → Option Value} {fa Z B : Addr} (X : K.In h) (GN : h.Ns mainGlobals mg) (hfa : mg "law" = some (.ref fa))
    {f0 : Addr} {od0 an0 : Option Addr} {sl0 : Array (Option Value)} {oc0 kV0 dc0 pm0 cd0 ct0 : Value}
    {f1 : Addr} {od1 an1 : Option Addr} {sl1 : Array (Option Value)} {oc1 kV1 dc1 pm1 cd1 ct1 : Value}
    {f2 : Addr} {od2 an2 : Option Addr} {sl2 : Array (Option Value)} {oc2 kV2 dc2 pm2 cd2 ct2 : Value}
    {f3 : Addr} {od3 an3 : Option Addr} {sl3 : Array (Option Value)} {oc3 kV3 dc3 pm3 cd3 ct3 : Value}
    {f4 : Addr} {od4 an4 : Option Addr} {sl4 : Array (Option Value)} {oc4 kV4 dc4 pm4 cd4 ct4 : Value}
    {f5 : Addr} {od5 an5 : Option Addr} {sl5 : Array (Option Value)} {oc5 kV5 dc5 pm5 cd5 ct5 : Value}
    {f6 : Addr} {od6 an6 : Option Addr} {sl6 : Array (Option Value)} {oc6 kV6 dc6 pm6 cd6 ct6 : Value}
    {f7 : Addr} {od7 an7 : Option Addr} {sl7 : Array (Option Value)} {oc7 kV7 dc7 pm7 cd7 ct7 : Value}
    {f8 : Addr} {od8 an8 : Option Addr} {sl8 : Array (Option Value)} {oc8 kV8 dc8 pm8 cd8 ct8 : Value}
    {f9 : Addr} {od9 an9 : Option Addr} {sl9 : Array (Option Value)} {oc9 kV9 dc9 pm9 cd9 ct9 : Value}
    {f10 : Addr} {od10 an10 : Option Addr} {sl10 : Array (Option Value)} {oc10 kV10 dc10 pm10 cd10 ct10 : Value}
    {f11 : Addr} {od11 an11 : Option Addr} {sl11 : Array (Option Value)} {oc11 kV11 dc11 pm11 cd11 ct11 : Value}
    {f12 : Addr} {od12 an12 : Option Addr} {sl12 : Array (Option Value)} {oc12 kV12 dc12 pm12 cd12 ct12 : Value}
    {f13 : Addr} {od13 an13 : Option Addr} {sl13 : Array (Option Value)} {oc13 kV13 dc13 pm13 cd13 ct13 : Value}
    {f14 : Addr} {od14 an14 : Option Addr} {sl14 : Array (Option Value)} {oc14 kV14 dc14 pm14 cd14 ct14 : Value}
    {f15 : Addr} {od15 an15 : Option Addr} {sl15 : Array (Option Value)} {oc15 kV15 dc15 pm15 cd15 ct15 : Value}
    {f16 : Addr} {od16 an16 : Option Addr} {sl16 : Array (Option Value)} {oc16 kV16 dc16 pm16 cd16 ct16 : Value}
    {f17 : Addr} {od17 an17 : Option Addr} {sl17 : Array (Option Value)} {oc17 kV17 dc17 pm17 cd17 ct17 : Value}
    {f18 : Addr} {od18 an18 : Option Addr} {sl18 : Array (Option Value)} {oc18 kV18 dc18 pm18 cd18 ct18 : Value}
    {f19 : Addr} {od19 an19 : Option Addr} {sl19 : Array (Option Value)} {oc19 kV19 dc19 pm19 cd19 ct19 : Value}
    {f20 : Addr} {od20 an20 : Option Addr} {sl20 : Array (Option Value)} {oc20 kV20 dc20 pm20 cd20 ct20 : Value}
    {f21 : Addr} {od21 an21 : Option Addr} {sl21 : Array (Option Value)} {oc21 kV21 dc21 pm21 cd21 ct21 : Value}
    {f22 : Addr} {od22 an22 : Option Addr} {sl22 : Array (Option Value)} {oc22 kV22 dc22 pm22 cd22 ct22 : Value}
    {f23 : Addr} {od23 an23 : Option Addr} {sl23 : Array (Option Value)} {oc23 kV23 dc23 pm23 cd23 ct23 : Value}
    {f24 : Addr} {od24 an24 : Option Addr} {sl24 : Array (Option Value)} {oc24 kV24 dc24 pm24 cd24 ct24 : Value}
    {f25 : Addr} {od25 an25 : Option Addr} {sl25 : Array (Option Value)} {oc25 kV25 dc25 pm25 cd25 ct25 : Value}
    {f26 : Addr} {od26 an26 : Option Addr} {sl26 : Array (Option Value)} {oc26 kV26 dc26 pm26 cd26 ct26 : Value}
    {f27 : Addr} {od27 an27 : Option Addr} {sl27 : Array (Option Value)} {oc27 kV27 dc27 pm27 cd27 ct27 : Value}
    {f28 : Addr} {od28 an28 : Option Addr} {sl28 : Array (Option Value)} {oc28 kV28 dc28 pm28 cd28 ct28 : Value}
    {f29 : Addr} {od29 an29 : Option Addr} {sl29 : Array (Option Value)} {oc29 kV29 dc29 pm29 cd29 ct29 : Value}
    {f30 : Addr} {od30 an30 : Option Addr} {sl30 : Array (Option Value)} {oc30 kV30 dc30 pm30 cd30 ct30 : Value}
    {f31 : Addr} {od31 an31 : Option Addr} {sl31 : Array (Option Value)} {oc31 kV31 dc31 pm31 cd31 ct31 : Value}
    {f32 : Addr} {od32 an32 : Option Addr} {sl32 : Array (Option Value)} {oc32 kV32 dc32 pm32 cd32 ct32 : Value}
    {f33 : Addr} {od33 an33 : Option Addr} {sl33 : Array (Option Value)} {oc33 kV33 dc33 pm33 cd33 ct33 : Value}
    {f34 : Addr} {od34 an34 : Option Addr} {sl34 : Array (Option Value)} {oc34 kV34 dc34 pm34 cd34 ct34 : Value}
    {f35 : Addr} {od35 an35 : Option Addr} {sl35 : Array (Option Value)} {oc35 kV35 dc35 pm35 cd35 ct35 : Value}
    {f36 : Addr} {od36 an36 : Option Addr} {sl36 : Array (Option Value)} {oc36 kV36 dc36 pm36 cd36 ct36 : Value}
    {f37 : Addr} {od37 an37 : Option Addr} {sl37 : Array (Option Value)} {oc37 kV37 dc37 pm37 cd37 ct37 : Value}
    {f38 : Addr} {od38 an38 : Option Addr} {sl38 : Array (Option Value)} {oc38 kV38 dc38 pm38 cd38 ct38 : Value}
    {f39 : Addr} {od39 an39 : Option Addr} {sl39 : Array (Option Value)} {oc39 kV39 dc39 pm39 cd39 ct39 : Value}
    {f40 : Addr} {od40 an40 : Option Addr} {sl40 : Array (Option Value)} {oc40 kV40 dc40 pm40 cd40 ct40 : Value}
    {f41 : Addr} {od41 an41 : Option Addr} {sl41 : Array (Option Value)} {oc41 kV41 dc41 pm41 cd41 ct41 : Value}
    {f42 : Addr} {od42 an42 : Option Addr} {sl42 : Array (Option Value)} {oc42 kV42 dc42 pm42 cd42 ct42 : Value}
    {f43 : Addr} {od43 an43 : Option Addr} {sl43 : Array (Option Value)} {oc43 kV43 dc43 pm43 cd43 ct43 : Value}
    {f44 : Addr} {od44 an44 : Option Addr} {sl44 : Array (Option Value)} {oc44 kV44 dc44 pm44 cd44 ct44 : Value}
    {f45 : Addr} {od45 an45 : Option Addr} {sl45 : Array (Option Value)} {oc45 kV45 dc45 pm45 cd45 ct45 : Value}
    {p45 : Addr} {re45 : List Value}
    {f46 : Addr} {od46 an46 : Option Addr} {sl46 : Array (Option Value)} {oc46 kV46 dc46 pm46 cd46 ct46 : Value}
    {f47 : Addr} {od47 an47 : Option Addr} {sl47 : Array (Option Value)} {oc47 kV47 dc47 pm47 cd47 ct47 : Value}
    {p47 : Addr} {re47 : List Value}
    {f48 : Addr} {od48 an48 : Option Addr} {sl48 : Array (Option Value)} {oc48 kV48 dc48 pm48 cd48 ct48 : Value}
    {p48 : Addr} {re48 : List Value}
    {f49 : Addr} {od49 an49 : Option Addr} {sl49 : Array (Option Value)} {oc49 kV49 dc49 pm49 cd49 ct49 : Value}
    {f50 : Addr} {od50 an50 : Option Addr} {sl50 : Array (Option Value)} {oc50 kV50 dc50 pm50 cd50 ct50 : Value}
    {f51 : Addr} {od51 an51 : Option Addr} {sl51 : Array (Option Value)} {oc51 kV51 dc51 pm51 cd51 ct51 : Value}
    {p51 : Addr} {re51 : List Value}
    {f52 : Addr} {od52 an52 : Option Addr} {sl52 : Array (Option Value)} {oc52 kV52 dc52 pm52 cd52 ct52 : Value}
    {f53 : Addr} {od53 an53 : Option Addr} {sl53 : Array (Option Value)} {oc53 kV53 dc53 pm53 cd53 ct53 : Value}
    {f54 : Addr} {od54 an54 : Option Addr} {sl54 : Array (Option Value)} {oc54 kV54 dc54 pm54 cd54 ct54 : Value}
    {f55 : Addr} {od55 an55 : Option Addr} {sl55 : Array (Option Value)} {oc55 kV55 dc55 pm55 cd55 ct55 : Value}
    {f56 : Addr} {od56 an56 : Option Addr} {sl56 : Array (Option Value)} {oc56 kV56 dc56 pm56 cd56 ct56 : Value}
    {f57 : Addr} {od57 an57 : Option Addr} {sl57 : Array (Option Value)} {oc57 kV57 dc57 pm57 cd57 ct57 : Value}
    {f58 : Addr} {od58 an58 : Option Addr} {sl58 : Array (Option Value)} {oc58 kV58 dc58 pm58 cd58 ct58 : Value}
    {f59 : Addr} {od59 an59 : Option Addr} {sl59 : Array (Option Value)} {oc59 kV59 dc59 pm59 cd59 ct59 : Value}
    {f60 : Addr} {od60 an60 : Option Addr} {sl60 : Array (Option Value)} {oc60 kV60 dc60 pm60 cd60 ct60 : Value}
    {f61 : Addr} {od61 an61 : Option Addr} {sl61 : Array (Option Value)} {oc61 kV61 dc61 pm61 cd61 ct61 : Value}
    {f62 : Addr} {od62 an62 : Option Addr} {sl62 : Array (Option Value)} {oc62 kV62 dc62 pm62 cd62 ct62 : Value}
    {f63 : Addr} {od63 an63 : Option Addr} {sl63 : Array (Option Value)} {oc63 kV63 dc63 pm63 cd63 ct63 : Value}
    {f64 : Addr} {od64 an64 : Option Addr} {sl64 : Array (Option Value)} {oc64 kV64 dc64 pm64 cd64 ct64 : Value}
    {f65 : Addr} {od65 an65 : Option Addr} {sl65 : Array (Option Value)} {oc65 kV65 dc65 pm65 cd65 ct65 : Value}
    {sp0 : Addr}
    {sp1 : Addr}
    {sp2 : Addr}
    {sp3 : Addr}
    {sp4 : Addr}
    {v_GREATEST : Int} {t_GREATEST : Tok}
    {v_PAIR : Int} {t_PAIR : Tok}
    {v_MOST_UNIT : Int} {t_MOST_UNIT : Tok}
    {v_MOST_CLOCKS : Int} {t_MOST_CLOCKS : Tok}
    (aZ : PySem.W.nsIn K mainGlobals "Zone" = some (some (.ref Z)))
    (aB : PySem.W.nsIn K mainGlobals "KnownBounds" = some (some (.ref B)))
    (a0 : PySem.W.nsIn K mainGlobals "_law_dice" = some (some (.ref f0)))
    (l0 : K.lookup f0 = some ⟨oc0, od0, .func (PySem.W.fnOf "_law_dice" "_law_dice" (defArgs s__law_dice) (defBody s__law_dice) (defScope s__law_dice) .none kV0 dc0 pm0 an0 cd0 ct0), sl0⟩)
    (c0 : PySem.W.codeIn K cd0 "_law_dice" = true)
    (k0 : PySem.W.keepIn K (.ref f0) = true)
    (a1 : PySem.W.nsIn K mainGlobals "_law_roll" = some (some (.ref f1)))
    (l1 : K.lookup f1 = some ⟨oc1, od1, .func (PySem.W.fnOf "_law_roll" "_law_roll" (defArgs s__law_roll) (defBody s__law_roll) (defScope s__law_roll) .none kV1 dc1 pm1 an1 cd1 ct1), sl1⟩)
    (c1 : PySem.W.codeIn K cd1 "_law_roll" = true)
    (k1 : PySem.W.keepIn K (.ref f1) = true)
    (a2 : PySem.W.nsIn K mainGlobals "_law_pick" = some (some (.ref f2)))
    (l2 : K.lookup f2 = some ⟨oc2, od2, .func (PySem.W.fnOf "_law_pick" "_law_pick" (defArgs s__law_pick) (defBody s__law_pick) (defScope s__law_pick) .none kV2 dc2 pm2 an2 cd2 ct2), sl2⟩)
    (c2 : PySem.W.codeIn K cd2 "_law_pick" = true)
    (k2 : PySem.W.keepIn K (.ref f2) = true)
    (a3 : PySem.W.nsIn K mainGlobals "_law_zw_bound" = some (some (.ref f3)))
    (l3 : K.lookup f3 = some ⟨oc3, od3, .func (PySem.W.fnOf "_law_zw_bound" "_law_zw_bound" (defArgs s__law_zw_bound) (defBody s__law_zw_bound) (defScope s__law_zw_bound) .none kV3 dc3 pm3 an3 cd3 ct3), sl3⟩)
    (c3 : PySem.W.codeIn K cd3 "_law_zw_bound" = true)
    (k3 : PySem.W.keepIn K (.ref f3) = true)
    (a4 : PySem.W.nsIn K mainGlobals "_law_zw_drawn" = some (some (.ref f4)))
    (l4 : K.lookup f4 = some ⟨oc4, od4, .func (PySem.W.fnOf "_law_zw_drawn" "_law_zw_drawn" (defArgs s__law_zw_drawn) (defBody s__law_zw_drawn) (defScope s__law_zw_drawn) .none kV4 dc4 pm4 an4 cd4 ct4), sl4⟩)
    (c4 : PySem.W.codeIn K cd4 "_law_zw_drawn" = true)
    (k4 : PySem.W.keepIn K (.ref f4) = true)
    (a5 : PySem.W.nsIn K mainGlobals "_law_bent" = some (some (.ref f5)))
    (l5 : K.lookup f5 = some ⟨oc5, od5, .func (PySem.W.fnOf "_law_bent" "_law_bent" (defArgs s__law_bent) (defBody s__law_bent) (defScope s__law_bent) .none kV5 dc5 pm5 an5 cd5 ct5), sl5⟩)
    (c5 : PySem.W.codeIn K cd5 "_law_bent" = true)
    (k5 : PySem.W.keepIn K (.ref f5) = true)
    (a6 : PySem.W.nsIn K mainGlobals "is_whole" = some (some (.ref f6)))
    (l6 : K.lookup f6 = some ⟨oc6, od6, .func (PySem.W.fnOf "is_whole" "is_whole" (defArgs s_is_whole) (defBody s_is_whole) (defScope s_is_whole) .none kV6 dc6 pm6 an6 cd6 ct6), sl6⟩)
    (c6 : PySem.W.codeIn K cd6 "is_whole" = true)
    (k6 : PySem.W.keepIn K (.ref f6) = true)
    (a7 : PySem.W.nsIn K mainGlobals "is_from" = some (some (.ref f7)))
    (l7 : K.lookup f7 = some ⟨oc7, od7, .func (PySem.W.fnOf "is_from" "is_from" (defArgs s_is_from) (defBody s_is_from) (defScope s_is_from) .none kV7 dc7 pm7 an7 cd7 ct7), sl7⟩)
    (c7 : PySem.W.codeIn K cd7 "is_from" = true)
    (k7 : PySem.W.keepIn K (.ref f7) = true)
    (a8 : PySem.W.nsIn K mainGlobals "require_from" = some (some (.ref f8)))
    (l8 : K.lookup f8 = some ⟨oc8, od8, .func (PySem.W.fnOf "require_from" "require_from" (defArgs s_require_from) (defBody s_require_from) (defScope s_require_from) .none kV8 dc8 pm8 an8 cd8 ct8), sl8⟩)
    (c8 : PySem.W.codeIn K cd8 "require_from" = true)
    (k8 : PySem.W.keepIn K (.ref f8) = true)
    (a9 : PySem.W.nsIn K mainGlobals "is_short" = some (some (.ref f9)))
    (l9 : K.lookup f9 = some ⟨oc9, od9, .func (PySem.W.fnOf "is_short" "is_short" (defArgs s_is_short) (defBody s_is_short) (defScope s_is_short) .none kV9 dc9 pm9 an9 cd9 ct9), sl9⟩)
    (c9 : PySem.W.codeIn K cd9 "is_short" = true)
    (k9 : PySem.W.keepIn K (.ref f9) = true)
    (a10 : PySem.W.nsIn K mainGlobals "is_bounds_row" = some (some (.ref f10)))
    (l10 : K.lookup f10 = some ⟨oc10, od10, .func (PySem.W.fnOf "is_bounds_row" "is_bounds_row" (defArgs s_is_bounds_row) (defBody s_is_bounds_row) (defScope s_is_bounds_row) .none kV10 dc10 pm10 an10 cd10 ct10), sl10⟩)
    (c10 : PySem.W.codeIn K cd10 "is_bounds_row" = true)
    (k10 : PySem.W.keepIn K (.ref f10) = true)
    (a11 : PySem.W.nsIn K mainGlobals "is_bounds" = some (some (.ref f11)))
    (l11 : K.lookup f11 = some ⟨oc11, od11, .func (PySem.W.fnOf "is_bounds" "is_bounds" (defArgs s_is_bounds) (defBody s_is_bounds) (defScope s_is_bounds) .none kV11 dc11 pm11 an11 cd11 ct11), sl11⟩)
    (c11 : PySem.W.codeIn K cd11 "is_bounds" = true)
    (k11 : PySem.W.keepIn K (.ref f11) = true)
    (a12 : PySem.W.nsIn K mainGlobals "told_bounds" = some (some (.ref f12)))
    (l12 : K.lookup f12 = some ⟨oc12, od12, .func (PySem.W.fnOf "told_bounds" "told_bounds" (defArgs s_told_bounds) (defBody s_told_bounds) (defScope s_told_bounds) .none kV12 dc12 pm12 an12 cd12 ct12), sl12⟩)
    (c12 : PySem.W.codeIn K cd12 "told_bounds" = true)
    (k12 : PySem.W.keepIn K (.ref f12) = true)
    (a13 : PySem.W.nsIn K mainGlobals "lesser" = some (some (.ref f13)))
    (l13 : K.lookup f13 = some ⟨oc13, od13, .func (PySem.W.fnOf "lesser" "lesser" (defArgs s_lesser) (defBody s_lesser) (defScope s_lesser) .none kV13 dc13 pm13 an13 cd13 ct13), sl13⟩)
    (c13 : PySem.W.codeIn K cd13 "lesser" = true)
    (k13 : PySem.W.keepIn K (.ref f13) = true)
    (a14 : PySem.W.nsIn K mainGlobals "counted_at" = some (some (.ref f14)))
    (l14 : K.lookup f14 = some ⟨oc14, od14, .func (PySem.W.fnOf "counted_at" "counted_at" (defArgs s_counted_at) (defBody s_counted_at) (defScope s_counted_at) .none kV14 dc14 pm14 an14 cd14 ct14), sl14⟩)
    (c14 : PySem.W.codeIn K cd14 "counted_at" = true)
    (k14 : PySem.W.keepIn K (.ref f14) = true)
    (a15 : PySem.W.nsIn K mainGlobals "counted" = some (some (.ref f15)))
    (l15 : K.lookup f15 = some ⟨oc15, od15, .func (PySem.W.fnOf "counted" "counted" (defArgs s_counted) (defBody s_counted) (defScope s_counted) .none kV15 dc15 pm15 an15 cd15 ct15), sl15⟩)
    (c15 : PySem.W.codeIn K cd15 "counted" = true)
    (k15 : PySem.W.keepIn K (.ref f15) = true)
    (a16 : PySem.W.nsIn K mainGlobals "added" = some (some (.ref f16)))
    (l16 : K.lookup f16 = some ⟨oc16, od16, .func (PySem.W.fnOf "added" "added" (defArgs s_added) (defBody s_added) (defScope s_added) .none kV16 dc16 pm16 an16 cd16 ct16), sl16⟩)
    (c16 : PySem.W.codeIn K cd16 "added" = true)
    (k16 : PySem.W.keepIn K (.ref f16) = true)
    (a17 : PySem.W.nsIn K mainGlobals "closed_rows" = some (some (.ref f17)))
    (l17 : K.lookup f17 = some ⟨oc17, od17, .func (PySem.W.fnOf "closed_rows" "closed_rows" (defArgs s_closed_rows) (defBody s_closed_rows) (defScope s_closed_rows) .none kV17 dc17 pm17 an17 cd17 ct17), sl17⟩)
    (c17 : PySem.W.codeIn K cd17 "closed_rows" = true)
    (k17 : PySem.W.keepIn K (.ref f17) = true)
    (a18 : PySem.W.nsIn K mainGlobals "closed_form" = some (some (.ref f18)))
    (l18 : K.lookup f18 = some ⟨oc18, od18, .func (PySem.W.fnOf "closed_form" "closed_form" (defArgs s_closed_form) (defBody s_closed_form) (defScope s_closed_form) .none kV18 dc18 pm18 an18 cd18 ct18), sl18⟩)
    (c18 : PySem.W.codeIn K cd18 "closed_form" = true)
    (k18 : PySem.W.keepIn K (.ref f18) = true)
    (a19 : PySem.W.findIn K (.ref Z) "__init__" = some (some (.ref f19)))
    (i19 : PySem.W.isFn K (.ref f19) = true)
    (l19 : K.lookup f19 = some ⟨oc19, od19, .func (PySem.W.fnOf "__init__" "Zone.__init__" (defArgs s_Zone_init) (defBody s_Zone_init) (defScope s_Zone_init) .none kV19 dc19 pm19 an19 cd19 ct19), sl19⟩)
    (c19 : PySem.W.codeIn K cd19 "Zone.__init__" = true)
    (k19 : PySem.W.keepIn K (.ref f19) = true)
    (a20 : PySem.W.nsIn K mainGlobals "_law_zw_rows" = some (some (.ref f20)))
    (l20 : K.lookup f20 = some ⟨oc20, od20, .func (PySem.W.fnOf "_law_zw_rows" "_law_zw_rows" (defArgs s__law_zw_rows) (defBody s__law_zw_rows) (defScope s__law_zw_rows) .none kV20 dc20 pm20 an20 cd20 ct20), sl20⟩)
    (c20 : PySem.W.codeIn K cd20 "_law_zw_rows" = true)
    (k20 : PySem.W.keepIn K (.ref f20) = true)
    (a21 : PySem.W.nsIn K mainGlobals "_law_zw_counted" = some (some (.ref f21)))
    (l21 : K.lookup f21 = some ⟨oc21, od21, .func (PySem.W.fnOf "_law_zw_counted" "_law_zw_counted" (defArgs s__law_zw_counted) (defBody s__law_zw_counted) (defScope s__law_zw_counted) .none kV21 dc21 pm21 an21 cd21 ct21), sl21⟩)
    (c21 : PySem.W.codeIn K cd21 "_law_zw_counted" = true)
    (k21 : PySem.W.keepIn K (.ref f21) = true)
    (a22 : PySem.W.nsIn K mainGlobals "_law_zw_sum" = some (some (.ref f22)))
    (l22 : K.lookup f22 = some ⟨oc22, od22, .func (PySem.W.fnOf "_law_zw_sum" "_law_zw_sum" (defArgs s__law_zw_sum) (defBody s__law_zw_sum) (defScope s__law_zw_sum) .none kV22 dc22 pm22 an22 cd22 ct22), sl22⟩)
    (c22 : PySem.W.codeIn K cd22 "_law_zw_sum" = true)
    (k22 : PySem.W.keepIn K (.ref f22) = true)
    (a23 : PySem.W.nsIn K mainGlobals "_law_zw_round_sum" = some (some (.ref f23)))
    (l23 : K.lookup f23 = some ⟨oc23, od23, .func (PySem.W.fnOf "_law_zw_round_sum" "_law_zw_round_sum" (defArgs s__law_zw_round_sum) (defBody s__law_zw_round_sum) (defScope s__law_zw_round_sum) .none kV23 dc23 pm23 an23 cd23 ct23), sl23⟩)
    (c23 : PySem.W.codeIn K cd23 "_law_zw_round_sum" = true)
    (k23 : PySem.W.keepIn K (.ref f23) = true)
    (a24 : PySem.W.nsIn K mainGlobals "_law_zw_is_empty" = some (some (.ref f24)))
    (l24 : K.lookup f24 = some ⟨oc24, od24, .func (PySem.W.fnOf "_law_zw_is_empty" "_law_zw_is_empty" (defArgs s__law_zw_is_empty) (defBody s__law_zw_is_empty) (defScope s__law_zw_is_empty) .none kV24 dc24 pm24 an24 cd24 ct24), sl24⟩)
    (c24 : PySem.W.codeIn K cd24 "_law_zw_is_empty" = true)
    (k24 : PySem.W.keepIn K (.ref f24) = true)
    (a25 : PySem.W.nsIn K mainGlobals "_law_zw_closed" = some (some (.ref f25)))
    (l25 : K.lookup f25 = some ⟨oc25, od25, .func (PySem.W.fnOf "_law_zw_closed" "_law_zw_closed" (defArgs s__law_zw_closed) (defBody s__law_zw_closed) (defScope s__law_zw_closed) .none kV25 dc25 pm25 an25 cd25 ct25), sl25⟩)
    (c25 : PySem.W.codeIn K cd25 "_law_zw_closed" = true)
    (k25 : PySem.W.keepIn K (.ref f25) = true)
    (a26 : PySem.W.nsIn K mainGlobals "_law_zw_within" = some (some (.ref f26)))
    (l26 : K.lookup f26 = some ⟨oc26, od26, .func (PySem.W.fnOf "_law_zw_within" "_law_zw_within" (defArgs s__law_zw_within) (defBody s__law_zw_within) (defScope s__law_zw_within) .none kV26 dc26 pm26 an26 cd26 ct26), sl26⟩)
    (c26 : PySem.W.codeIn K cd26 "_law_zw_within" = true)
    (k26 : PySem.W.keepIn K (.ref f26) = true)
    (a27 : PySem.W.nsIn K mainGlobals "require_zone" = some (some (.ref f27)))
    (l27 : K.lookup f27 = some ⟨oc27, od27, .func (PySem.W.fnOf "require_zone" "require_zone" (defArgs s_require_zone) (defBody s_require_zone) (defScope s_require_zone) .none kV27 dc27 pm27 an27 cd27 ct27), sl27⟩)
    (c27 : PySem.W.codeIn K cd27 "require_zone" = true)
    (k27 : PySem.W.keepIn K (.ref f27) = true)
    (a28 : PySem.W.nsIn K mainGlobals "require_like" = some (some (.ref f28)))
    (l28 : K.lookup f28 = some ⟨oc28, od28, .func (PySem.W.fnOf "require_like" "require_like" (defArgs s_require_like) (defBody s_require_like) (defScope s_require_like) .none kV28 dc28 pm28 an28 cd28 ct28), sl28⟩)
    (c28 : PySem.W.codeIn K cd28 "require_like" = true)
    (k28 : PySem.W.keepIn K (.ref f28) = true)
    (a29 : PySem.W.nsIn K mainGlobals "is_at_most" = some (some (.ref f29)))
    (l29 : K.lookup f29 = some ⟨oc29, od29, .func (PySem.W.fnOf "is_at_most" "is_at_most" (defArgs s_is_at_most) (defBody s_is_at_most) (defScope s_is_at_most) .none kV29 dc29 pm29 an29 cd29 ct29), sl29⟩)
    (c29 : PySem.W.codeIn K cd29 "is_at_most" = true)
    (k29 : PySem.W.keepIn K (.ref f29) = true)
    (a30 : PySem.W.nsIn K mainGlobals "greater_at" = some (some (.ref f30)))
    (l30 : K.lookup f30 = some ⟨oc30, od30, .func (PySem.W.fnOf "greater_at" "greater_at" (defArgs s_greater_at) (defBody s_greater_at) (defScope s_greater_at) .none kV30 dc30 pm30 an30 cd30 ct30), sl30⟩)
    (c30 : PySem.W.codeIn K cd30 "greater_at" = true)
    (k30 : PySem.W.keepIn K (.ref f30) = true)
    (a31 : PySem.W.findIn K (.ref Z) "is_within" = some (some (.ref f31)))
    (i31 : PySem.W.isFn K (.ref f31) = true)
    (l31 : K.lookup f31 = some ⟨oc31, od31, .func (PySem.W.fnOf "is_within" "Zone.is_within" (defArgs s_Zone_is_within) (defBody s_Zone_is_within) (defScope s_Zone_is_within) .none kV31 dc31 pm31 an31 cd31 ct31), sl31⟩)
    (c31 : PySem.W.codeIn K cd31 "Zone.is_within" = true)
    (k31 : PySem.W.keepIn K (.ref f31) = true)
    (a32 : PySem.W.nsIn K mainGlobals "shared_in" = some (some (.ref f32)))
    (l32 : K.lookup f32 = some ⟨oc32, od32, .func (PySem.W.fnOf "shared_in" "shared_in" (defArgs s_shared_in) (defBody s_shared_in) (defScope s_shared_in) .none kV32 dc32 pm32 an32 cd32 ct32), sl32⟩)
    (c32 : PySem.W.codeIn K cd32 "shared_in" = true)
    (k32 : PySem.W.keepIn K (.ref f32) = true)
    (a33 : PySem.W.nsIn K mainGlobals "lowest" = some (some (.ref f33)))
    (l33 : K.lookup f33 = some ⟨oc33, od33, .func (PySem.W.fnOf "lowest" "lowest" (defArgs s_lowest) (defBody s_lowest) (defScope s_lowest) .none kV33 dc33 pm33 an33 cd33 ct33), sl33⟩)
    (c33 : PySem.W.codeIn K cd33 "lowest" = true)
    (k33 : PySem.W.keepIn K (.ref f33) = true)
    (a34 : PySem.W.nsIn K mainGlobals "least_of" = some (some (.ref f34)))
    (l34 : K.lookup f34 = some ⟨oc34, od34, .func (PySem.W.fnOf "least_of" "least_of" (defArgs s_least_of) (defBody s_least_of) (defScope s_least_of) .none kV34 dc34 pm34 an34 cd34 ct34), sl34⟩)
    (c34 : PySem.W.codeIn K cd34 "least_of" = true)
    (k34 : PySem.W.keepIn K (.ref f34) = true)
    (a35 : PySem.W.nsIn K mainGlobals "with_bound" = some (some (.ref f35)))
    (l35 : K.lookup f35 = some ⟨oc35, od35, .func (PySem.W.fnOf "with_bound" "with_bound" (defArgs s_with_bound) (defBody s_with_bound) (defScope s_with_bound) .none kV35 dc35 pm35 an35 cd35 ct35), sl35⟩)
    (c35 : PySem.W.codeIn K cd35 "with_bound" = true)
    (k35 : PySem.W.keepIn K (.ref f35) = true)
    (a36 : PySem.W.nsIn K mainGlobals "point_with" = some (some (.ref f36)))
    (l36 : K.lookup f36 = some ⟨oc36, od36, .func (PySem.W.fnOf "point_with" "point_with" (defArgs s_point_with) (defBody s_point_with) (defScope s_point_with) .none kV36 dc36 pm36 an36 cd36 ct36), sl36⟩)
    (c36 : PySem.W.codeIn K cd36 "point_with" = true)
    (k36 : PySem.W.keepIn K (.ref f36) = true)
    (a37 : PySem.W.findIn K (.ref Z) "outside" = some (some (.ref f37)))
    (i37 : PySem.W.isFn K (.ref f37) = true)
    (l37 : K.lookup f37 = some ⟨oc37, od37, .func (PySem.W.fnOf "outside" "Zone.outside" (defArgs s_Zone_outside) (defBody s_Zone_outside) (defScope s_Zone_outside) .none kV37 dc37 pm37 an37 cd37 ct37), sl37⟩)
    (c37 : PySem.W.codeIn K cd37 "Zone.outside" = true)
    (k37 : PySem.W.keepIn K (.ref f37) = true)
    (a38 : PySem.W.nsIn K mainGlobals "_law_zw_shared" = some (some (.ref f38)))
    (l38 : K.lookup f38 = some ⟨oc38, od38, .func (PySem.W.fnOf "_law_zw_shared" "_law_zw_shared" (defArgs s__law_zw_shared) (defBody s__law_zw_shared) (defScope s__law_zw_shared) .none kV38 dc38 pm38 an38 cd38 ct38), sl38⟩)
    (c38 : PySem.W.codeIn K cd38 "_law_zw_shared" = true)
    (k38 : PySem.W.keepIn K (.ref f38) = true)
    (a39 : PySem.W.nsIn K mainGlobals "_law_zw_are_readings" = some (some (.ref f39)))
    (l39 : K.lookup f39 = some ⟨oc39, od39, .func (PySem.W.fnOf "_law_zw_are_readings" "_law_zw_are_readings" (defArgs s__law_zw_are_readings) (defBody s__law_zw_are_readings) (defScope s__law_zw_are_readings) .none kV39 dc39 pm39 an39 cd39 ct39), sl39⟩)
    (c39 : PySem.W.codeIn K cd39 "_law_zw_are_readings" = true)
    (k39 : PySem.W.keepIn K (.ref f39) = true)
    (a40 : PySem.W.nsIn K mainGlobals "_law_zw_has" = some (some (.ref f40)))
    (l40 : K.lookup f40 = some ⟨oc40, od40, .func (PySem.W.fnOf "_law_zw_has" "_law_zw_has" (defArgs s__law_zw_has) (defBody s__law_zw_has) (defScope s__law_zw_has) .none kV40 dc40 pm40 an40 cd40 ct40), sl40⟩)
    (c40 : PySem.W.codeIn K cd40 "_law_zw_has" = true)
    (k40 : PySem.W.keepIn K (.ref f40) = true)
    (a41 : PySem.W.nsIn K mainGlobals "_law_outside_right" = some (some (.ref f41)))
    (l41 : K.lookup f41 = some ⟨oc41, od41, .func (PySem.W.fnOf "_law_outside_right" "_law_outside_right" (defArgs s__law_outside_right) (defBody s__law_outside_right) (defScope s__law_outside_right) .none kV41 dc41 pm41 an41 cd41 ct41), sl41⟩)
    (c41 : PySem.W.codeIn K cd41 "_law_outside_right" = true)
    (k41 : PySem.W.keepIn K (.ref f41) = true)
    (a42 : PySem.W.findIn K (.ref B) "__init__" = some (some (.ref f42)))
    (i42 : PySem.W.isFn K (.ref f42) = true)
    (l42 : K.lookup f42 = some ⟨oc42, od42, .func (PySem.W.fnOf "__init__" "KnownBounds.__init__" (defArgs s_KnownBounds_init) (defBody s_KnownBounds_init) (defScope s_KnownBounds_init) .none kV42 dc42 pm42 an42 cd42 ct42), sl42⟩)
    (c42 : PySem.W.codeIn K cd42 "KnownBounds.__init__" = true)
    (k42 : PySem.W.keepIn K (.ref f42) = true)
    (a43 : PySem.W.nsIn K mainGlobals "made_zone" = some (some (.ref f43)))
    (l43 : K.lookup f43 = some ⟨oc43, od43, .func (PySem.W.fnOf "made_zone" "made_zone" (defArgs s_made_zone) (defBody s_made_zone) (defScope s_made_zone) .none kV43 dc43 pm43 an43 cd43 ct43), sl43⟩)
    (c43 : PySem.W.codeIn K cd43 "made_zone" = true)
    (k43 : PySem.W.keepIn K (.ref f43) = true)
    (a44 : PySem.W.findIn K (.ref Z) "met" = some (some (.ref f44)))
    (i44 : PySem.W.isFn K (.ref f44) = true)
    (l44 : K.lookup f44 = some ⟨oc44, od44, .func (PySem.W.fnOf "met" "Zone.met" (defArgs s_Zone_met) (defBody s_Zone_met) (defScope s_Zone_met) .none kV44 dc44 pm44 an44 cd44 ct44), sl44⟩)
    (c44 : PySem.W.codeIn K cd44 "Zone.met" = true)
    (k44 : PySem.W.keepIn K (.ref f44) = true)
    (a45 : PySem.W.findIn K (.ref Z) "bounds" = some (some (.ref p45)))
    (x45 : PySem.W.specialIn K (.ref p45) "__get__" = some (some (.builtin "property.__get__")))
    (y45 : PySem.W.takesIn K (.ref p45) = some true)
    (z45 : PySem.W.recIn K p45 "property" = some (.ref f45 :: re45))
    (l45 : K.lookup f45 = some ⟨oc45, od45, .func (PySem.W.fnOf "bounds" "Zone.bounds" (defArgs s_Zone_bounds) (defBody s_Zone_bounds) (defScope s_Zone_bounds) .none kV45 dc45 pm45 an45 cd45 ct45), sl45⟩)
    (c45 : PySem.W.codeIn K cd45 "Zone.bounds" = true)
    (k45 : PySem.W.keepIn K (.ref f45) = true)
    (a46 : PySem.W.nsIn K mainGlobals "_law_both" = some (some (.ref f46)))
    (l46 : K.lookup f46 = some ⟨oc46, od46, .func (PySem.W.fnOf "_law_both" "_law_both" (defArgs s__law_both) (defBody s__law_both) (defScope s__law_both) .none kV46 dc46 pm46 an46 cd46 ct46), sl46⟩)
    (c46 : PySem.W.codeIn K cd46 "_law_both" = true)
    (k46 : PySem.W.keepIn K (.ref f46) = true)
    (a47 : PySem.W.findIn K (.ref Z) "clocks" = some (some (.ref p47)))
    (x47 : PySem.W.specialIn K (.ref p47) "__get__" = some (some (.builtin "property.__get__")))
    (y47 : PySem.W.takesIn K (.ref p47) = some true)
    (z47 : PySem.W.recIn K p47 "property" = some (.ref f47 :: re47))
    (l47 : K.lookup f47 = some ⟨oc47, od47, .func (PySem.W.fnOf "clocks" "Zone.clocks" (defArgs s_Zone_clocks) (defBody s_Zone_clocks) (defScope s_Zone_clocks) .none kV47 dc47 pm47 an47 cd47 ct47), sl47⟩)
    (c47 : PySem.W.codeIn K cd47 "Zone.clocks" = true)
    (k47 : PySem.W.keepIn K (.ref f47) = true)
    (a48 : PySem.W.findIn K (.ref Z) "unit" = some (some (.ref p48)))
    (x48 : PySem.W.specialIn K (.ref p48) "__get__" = some (some (.builtin "property.__get__")))
    (y48 : PySem.W.takesIn K (.ref p48) = some true)
    (z48 : PySem.W.recIn K p48 "property" = some (.ref f48 :: re48))
    (l48 : K.lookup f48 = some ⟨oc48, od48, .func (PySem.W.fnOf "unit" "Zone.unit" (defArgs s_Zone_unit) (defBody s_Zone_unit) (defScope s_Zone_unit) .none kV48 dc48 pm48 an48 cd48 ct48), sl48⟩)
    (c48 : PySem.W.codeIn K cd48 "Zone.unit" = true)
    (k48 : PySem.W.keepIn K (.ref f48) = true)
    (a49 : PySem.W.findIn K (.ref Z) "finer" = some (some (.ref f49)))
    (i49 : PySem.W.isFn K (.ref f49) = true)
    (l49 : K.lookup f49 = some ⟨oc49, od49, .func (PySem.W.fnOf "finer" "Zone.finer" (defArgs s_Zone_finer) (defBody s_Zone_finer) (defScope s_Zone_finer) .none kV49 dc49 pm49 an49 cd49 ct49), sl49⟩)
    (c49 : PySem.W.codeIn K cd49 "Zone.finer" = true)
    (k49 : PySem.W.keepIn K (.ref f49) = true)
    (a50 : PySem.W.nsIn K mainGlobals "_law_times" = some (some (.ref f50)))
    (l50 : K.lookup f50 = some ⟨oc50, od50, .func (PySem.W.fnOf "_law_times" "_law_times" (defArgs s__law_times) (defBody s__law_times) (defScope s__law_times) .none kV50 dc50 pm50 an50 cd50 ct50), sl50⟩)
    (c50 : PySem.W.codeIn K cd50 "_law_times" = true)
    (k50 : PySem.W.keepIn K (.ref f50) = true)
    (a51 : PySem.W.findIn K (.ref Z) "is_empty" = some (some (.ref p51)))
    (x51 : PySem.W.specialIn K (.ref p51) "__get__" = some (some (.builtin "property.__get__")))
    (y51 : PySem.W.takesIn K (.ref p51) = some true)
    (z51 : PySem.W.recIn K p51 "property" = some (.ref f51 :: re51))
    (l51 : K.lookup f51 = some ⟨oc51, od51, .func (PySem.W.fnOf "is_empty" "Zone.is_empty" (defArgs s_Zone_is_empty) (defBody s_Zone_is_empty) (defScope s_Zone_is_empty) .none kV51 dc51 pm51 an51 cd51 ct51), sl51⟩)
    (c51 : PySem.W.codeIn K cd51 "Zone.is_empty" = true)
    (k51 : PySem.W.keepIn K (.ref f51) = true)
    (a52 : PySem.W.nsIn K mainGlobals "_law_zw_fraction" = some (some (.ref f52)))
    (l52 : K.lookup f52 = some ⟨oc52, od52, .func (PySem.W.fnOf "_law_zw_fraction" "_law_zw_fraction" (defArgs s__law_zw_fraction) (defBody s__law_zw_fraction) (defScope s__law_zw_fraction) .none kV52 dc52 pm52 an52 cd52 ct52), sl52⟩)
    (c52 : PySem.W.codeIn K cd52 "_law_zw_fraction" = true)
    (k52 : PySem.W.keepIn K (.ref f52) = true)
    (a53 : PySem.W.nsIn K mainGlobals "is_fraction" = some (some (.ref f53)))
    (l53 : K.lookup f53 = some ⟨oc53, od53, .func (PySem.W.fnOf "is_fraction" "is_fraction" (defArgs s_is_fraction) (defBody s_is_fraction) (defScope s_is_fraction) .none kV53 dc53 pm53 an53 cd53 ct53), sl53⟩)
    (c53 : PySem.W.codeIn K cd53 "is_fraction" = true)
    (k53 : PySem.W.keepIn K (.ref f53) = true)
    (a54 : PySem.W.nsIn K mainGlobals "are_readings" = some (some (.ref f54)))
    (l54 : K.lookup f54 = some ⟨oc54, od54, .func (PySem.W.fnOf "are_readings" "are_readings" (defArgs s_are_readings) (defBody s_are_readings) (defScope s_are_readings) .none kV54 dc54 pm54 an54 cd54 ct54), sl54⟩)
    (c54 : PySem.W.codeIn K cd54 "are_readings" = true)
    (k54 : PySem.W.keepIn K (.ref f54) = true)
    (a55 : PySem.W.nsIn K mainGlobals "point_zone" = some (some (.ref f55)))
    (l55 : K.lookup f55 = some ⟨oc55, od55, .func (PySem.W.fnOf "point_zone" "point_zone" (defArgs s_point_zone) (defBody s_point_zone) (defScope s_point_zone) .none kV55 dc55 pm55 an55 cd55 ct55), sl55⟩)
    (c55 : PySem.W.codeIn K cd55 "point_zone" = true)
    (k55 : PySem.W.keepIn K (.ref f55) = true)
    (a56 : PySem.W.nsIn K mainGlobals "require_point" = some (some (.ref f56)))
    (l56 : K.lookup f56 = some ⟨oc56, od56, .func (PySem.W.fnOf "require_point" "require_point" (defArgs s_require_point) (defBody s_require_point) (defScope s_require_point) .none kV56 dc56 pm56 an56 cd56 ct56), sl56⟩)
    (c56 : PySem.W.codeIn K cd56 "require_point" = true)
    (k56 : PySem.W.keepIn K (.ref f56) = true)
    (a57 : PySem.W.findIn K (.ref Z) "least" = some (some (.ref f57)))
    (i57 : PySem.W.isFn K (.ref f57) = true)
    (l57 : K.lookup f57 = some ⟨oc57, od57, .func (PySem.W.fnOf "least" "Zone.least" (defArgs s_Zone_least) (defBody s_Zone_least) (defScope s_Zone_least) .none kV57 dc57 pm57 an57 cd57 ct57), sl57⟩)
    (c57 : PySem.W.codeIn K cd57 "Zone.least" = true)
    (k57 : PySem.W.keepIn K (.ref f57) = true)
    (a58 : PySem.W.findIn K (.ref Z) "edge" = some (some (.ref f58)))
    (i58 : PySem.W.isFn K (.ref f58) = true)
    (l58 : K.lookup f58 = some ⟨oc58, od58, .func (PySem.W.fnOf "edge" "Zone.edge" (defArgs s_Zone_edge) (defBody s_Zone_edge) (defScope s_Zone_edge) .none kV58 dc58 pm58 an58 cd58 ct58), sl58⟩)
    (c58 : PySem.W.codeIn K cd58 "Zone.edge" = true)
    (k58 : PySem.W.keepIn K (.ref f58) = true)
    (a59 : PySem.W.nsIn K mainGlobals "whole_zone" = some (some (.ref f59)))
    (l59 : K.lookup f59 = some ⟨oc59, od59, .func (PySem.W.fnOf "whole_zone" "whole_zone" (defArgs s_whole_zone) (defBody s_whole_zone) (defScope s_whole_zone) .none kV59 dc59 pm59 an59 cd59 ct59), sl59⟩)
    (c59 : PySem.W.codeIn K cd59 "whole_zone" = true)
    (k59 : PySem.W.keepIn K (.ref f59) = true)
    (a60 : PySem.W.nsIn K mainGlobals "require_readings" = some (some (.ref f60)))
    (l60 : K.lookup f60 = some ⟨oc60, od60, .func (PySem.W.fnOf "require_readings" "require_readings" (defArgs s_require_readings) (defBody s_require_readings) (defScope s_require_readings) .none kV60 dc60 pm60 an60 cd60 ct60), sl60⟩)
    (c60 : PySem.W.codeIn K cd60 "require_readings" = true)
    (k60 : PySem.W.keepIn K (.ref f60) = true)
    (a61 : PySem.W.nsIn K mainGlobals "is_kept" = some (some (.ref f61)))
    (l61 : K.lookup f61 = some ⟨oc61, od61, .func (PySem.W.fnOf "is_kept" "is_kept" (defArgs s_is_kept) (defBody s_is_kept) (defScope s_is_kept) .none kV61 dc61 pm61 an61 cd61 ct61), sl61⟩)
    (c61 : PySem.W.codeIn K cd61 "is_kept" = true)
    (k61 : PySem.W.keepIn K (.ref f61) = true)
    (a62 : PySem.W.findIn K (.ref Z) "has" = some (some (.ref f62)))
    (i62 : PySem.W.isFn K (.ref f62) = true)
    (l62 : K.lookup f62 = some ⟨oc62, od62, .func (PySem.W.fnOf "has" "Zone.has" (defArgs s_Zone_has) (defBody s_Zone_has) (defScope s_Zone_has) .none kV62 dc62 pm62 an62 cd62 ct62), sl62⟩)
    (c62 : PySem.W.codeIn K cd62 "Zone.has" = true)
    (k62 : PySem.W.keepIn K (.ref f62) = true)
    (a63 : PySem.W.findIn K (.ref Z) "__eq__" = some (some (.ref f63)))
    (i63 : PySem.W.isFn K (.ref f63) = true)
    (l63 : K.lookup f63 = some ⟨oc63, od63, .func (PySem.W.fnOf "__eq__" "Zone.__eq__" (defArgs s_Zone_eq) (defBody s_Zone_eq) (defScope s_Zone_eq) .none kV63 dc63 pm63 an63 cd63 ct63), sl63⟩)
    (c63 : PySem.W.codeIn K cd63 "Zone.__eq__" = true)
    (k63 : PySem.W.keepIn K (.ref f63) = true)
    (a64 : PySem.W.nsIn K mainGlobals "_law_right" = some (some (.ref f64)))
    (l64 : K.lookup f64 = some ⟨oc64, od64, .func (PySem.W.fnOf "_law_right" "_law_right" (defArgs s__law_right) (defBody s__law_right) (defScope s__law_right) .none kV64 dc64 pm64 an64 cd64 ct64), sl64⟩)
    (c64 : PySem.W.codeIn K cd64 "_law_right" = true)
    (k64 : PySem.W.keepIn K (.ref f64) = true)
    (a65 : PySem.W.nsIn K mainGlobals "law" = some (some (.ref f65)))
    (l65 : K.lookup f65 = some ⟨oc65, od65, .func (PySem.W.fnOf "law" "law" (defArgs s_law) (defBody s_law) (defScope s_law) .none kV65 dc65 pm65 an65 cd65 ct65), sl65⟩)
    (c65 : PySem.W.codeIn K cd65 "law" = true)
    (k65 : PySem.W.keepIn K (.ref f65) = true)
    (s0a : PySem.W.findIn K (.ref Z) "own_clocks" = some (some (.ref sp0)))
    (s0b : PySem.W.specialIn K (.ref sp0) "__get__" = some (some (.builtin "member_descriptor.__get__")))
    (s0c : PySem.W.takesIn K (.ref sp0) = some true)
    (s0d : PySem.W.typeIn K (.ref sp0) = some (.type "member_descriptor"))
    (s0e : PySem.W.slotIn K sp0 Z = some 0)
    (s1a : PySem.W.findIn K (.ref Z) "own_closed" = some (some (.ref sp1)))
    (s1b : PySem.W.specialIn K (.ref sp1) "__get__" = some (some (.builtin "member_descriptor.__get__")))
    (s1c : PySem.W.takesIn K (.ref sp1) = some true)
    (s1d : PySem.W.typeIn K (.ref sp1) = some (.type "member_descriptor"))
    (s1e : PySem.W.slotIn K sp1 Z = some 1)
    (s2a : PySem.W.findIn K (.ref Z) "own_told" = some (some (.ref sp2)))
    (s2b : PySem.W.specialIn K (.ref sp2) "__get__" = some (some (.builtin "member_descriptor.__get__")))
    (s2c : PySem.W.takesIn K (.ref sp2) = some true)
    (s2d : PySem.W.typeIn K (.ref sp2) = some (.type "member_descriptor"))
    (s2e : PySem.W.slotIn K sp2 Z = some 2)
    (s3a : PySem.W.findIn K (.ref Z) "own_unit" = some (some (.ref sp3)))
    (s3b : PySem.W.specialIn K (.ref sp3) "__get__" = some (some (.builtin "member_descriptor.__get__")))
    (s3c : PySem.W.takesIn K (.ref sp3) = some true)
    (s3d : PySem.W.typeIn K (.ref sp3) = some (.type "member_descriptor"))
    (s3e : PySem.W.slotIn K sp3 Z = some 3)
    (s4a : PySem.W.findIn K (.ref B) "own_rows" = some (some (.ref sp4)))
    (s4b : PySem.W.specialIn K (.ref sp4) "__get__" = some (some (.builtin "member_descriptor.__get__")))
    (s4c : PySem.W.takesIn K (.ref sp4) = some true)
    (s4d : PySem.W.typeIn K (.ref sp4) = some (.type "member_descriptor"))
    (s4e : PySem.W.slotIn K sp4 B = some 0)
    (pgZ : PySem.W.plainGet K Z Str.empty = true)
    (icZ : PySem.W.isClsIn K Z = true)
    (poZ : PySem.W.plainOver K Z = true)
    (saZ : PySem.W.findIn K (.ref Z) "__setattr__" = some (some (.builtin "object.__setattr__")))
    (mkZ : PySem.W.makesIn K Z = true)
    (kcZ : PySem.W.keepIn K (.ref Z) = true)
    (caZ : PySem.W.findIn K (.ref Z) "__class__" = some (some (.builtin "object.__class__")))
    (cmZ : PySem.W.mroIn K Z (.type "object") = some true)
    (pgB : PySem.W.plainGet K B Str.empty = true)
    (icB : PySem.W.isClsIn K B = true)
    (poB : PySem.W.plainOver K B = true)
    (saB : PySem.W.findIn K (.ref B) "__setattr__" = some (some (.builtin "object.__setattr__")))
    (mkB : PySem.W.makesIn K B = true)
    (kcB : PySem.W.keepIn K (.ref B) = true)
    (caB : PySem.W.findIn K (.ref B) "__class__" = some (some (.builtin "object.__class__")))
    (cmB : PySem.W.mroIn K B (.type "object") = some true)
    (cn : PySem.W.specialIn K (.builtin "object.__class__") "__get__" = some (some (.builtin "getset_descriptor.__get__")))
    (ct : PySem.W.takesIn K (.builtin "object.__class__") = some true)
    (tyB : PySem.W.typeIn K (.ref B) = some (.type "type"))
    (stb : PySem.W.subIn K (.type "tuple") (.ref B) = some false)
    (nf : PySem.W.notFirst K Z (.ref Z) = true)
    (ne : PySem.W.findIn K (.ref Z) "__ne__" = some (some (.builtin "object.__ne__")))
    (b_len : PySem.W.nsIn K mainGlobals "len" = some none)
    (b_abs : PySem.W.nsIn K mainGlobals "abs" = some none)
    (b_max : PySem.W.nsIn K mainGlobals "max" = some none)
    (b_min : PySem.W.nsIn K mainGlobals "min" = some none)
    (b_isinstance : PySem.W.nsIn K mainGlobals "isinstance" = some none)
    (b_all : PySem.W.nsIn K mainGlobals "all" = some none)
    (b_any : PySem.W.nsIn K mainGlobals "any" = some none)
    (b_sum : PySem.W.nsIn K mainGlobals "sum" = some none)
    (b_int : PySem.W.nsIn K mainGlobals "int" = some none)
    (b_bool : PySem.W.nsIn K mainGlobals "bool" = some none)
    (b_tuple : PySem.W.nsIn K mainGlobals "tuple" = some none)
    (b_list : PySem.W.nsIn K mainGlobals "list" = some none)
    (b_range : PySem.W.nsIn K mainGlobals "range" = some none)
    (b_zip : PySem.W.nsIn K mainGlobals "zip" = some none)
    (b_enumerate : PySem.W.nsIn K mainGlobals "enumerate" = some none)
    (b_repr : PySem.W.nsIn K mainGlobals "repr" = some none)
    (g_GREATEST : PySem.W.nsIn K mainGlobals "GREATEST" = some (some (.int v_GREATEST t_GREATEST)))
    (e_GREATEST : v_GREATEST = 10 ^ 60)
    (g_PAIR : PySem.W.nsIn K mainGlobals "PAIR" = some (some (.int v_PAIR t_PAIR)))
    (e_PAIR : v_PAIR = 2)
    (g_MOST_UNIT : PySem.W.nsIn K mainGlobals "MOST_UNIT" = some (some (.int v_MOST_UNIT t_MOST_UNIT)))
    (e_MOST_UNIT : v_MOST_UNIT = 64)
    (g_MOST_CLOCKS : PySem.W.nsIn K mainGlobals "MOST_CLOCKS" = some (some (.int v_MOST_CLOCKS t_MOST_CLOCKS)))
    (e_MOST_CLOCKS : v_MOST_CLOCKS = 3) :
    ∃ fd : FuncData, (∀ (s : Shared) (v : Value), BindsTo s fd ⟨[v], []⟩ [("_law_script", v)]) ∧ ∀ base : Heap, K.In base → base.Ns mainGlobals mg → FnOk l.prog w K mg base CX0 11 fa fd ["_law_script"] (spLaw ⟨K, 0, 0, none⟩) := by
  have e := hfa.symm.trans (PySem.W.mg_of X GN a65)
  cases e
  let G : Gd := ⟨K, Z, B, none⟩
  have Bm : Bi mg := ⟨PySem.W.mg_none_of X GN b_len, PySem.W.mg_none_of X GN b_abs, PySem.W.mg_none_of X GN b_max, PySem.W.mg_none_of X GN b_min, PySem.W.mg_none_of X GN b_isinstance, PySem.W.mg_none_of X GN b_all, PySem.W.mg_none_of X GN b_any, PySem.W.mg_none_of X GN b_sum, PySem.W.mg_none_of X GN b_int, PySem.W.mg_none_of X GN b_bool, PySem.W.mg_none_of X GN b_tuple, PySem.W.mg_none_of X GN b_list, PySem.W.mg_none_of X GN b_range, PySem.W.mg_none_of X GN b_zip, PySem.W.mg_none_of X GN b_enumerate, PySem.W.mg_none_of X GN b_repr, ⟨_, by rw [← e_GREATEST]; exact PySem.W.mg_of X GN g_GREATEST⟩, ⟨_, by rw [← e_PAIR]; exact PySem.W.mg_of X GN g_PAIR⟩, ⟨_, by rw [← e_MOST_UNIT]; exact PySem.W.mg_of X GN g_MOST_UNIT⟩, ⟨_, by rw [← e_MOST_CLOCKS]; exact PySem.W.mg_of X GN g_MOST_CLOCKS⟩⟩
  have Zf : Zo G mg := ⟨⟨pgZ, icZ, poZ, saZ⟩, ⟨pgB, icB, poB, saB⟩, ⟨sp0, s0a, s0b, s0c, s0d, s0e, by decide⟩, ⟨sp1, s1a, s1b, s1c, s1d, s1e, by decide⟩, ⟨sp2, s2a, s2b, s2c, s2d, s2e, by decide⟩, ⟨sp3, s3a, s3b, s3c, s3d, s3e, by decide⟩, ⟨sp4, s4a, s4b, s4c, s4d, s4e, by decide⟩, ⟨caZ, cn, ct, cmZ⟩, ⟨caB, cn, ct, cmB⟩, PySem.W.mg_of X GN aZ, PySem.W.mg_of X GN aB, kit_self, kit_self, kit_tup icB tyB stb, nf⟩
  refine ⟨PySem.W.fnOf "law" "law" (defArgs s_law) (defBody s_law) (defScope s_law) .none kV65 dc65 pm65 an65 cd65 ct65, fun s v => .of_eq rfl, fun base _ _ => ?_⟩
  have F0 := fun_mk (st := s__law_dice) l0 c0 k0
  have B0 : Binds K _ ["_law_script", "_law_spot"] [] := F0.binds (ps := ["_law_script", "_law_spot"]) fun _ _ _ _ _ _ us hl => match us, hl with | [_, _], _ => rfl
  have K0 : FnOk l.prog w K mg base CX0 1 f0 _ ["_law_script", "_law_spot"] (spDice G) := ok__law_dice (G := G) F0 Bm 
  have h__law_dice : Has l.prog w K mg base "_law_dice" 1 ["_law_script", "_law_spot"] (spDice G) := ⟨_, _, K0, PySem.W.mg_of X GN a0, k0, B0⟩
  have F1 := fun_mk (st := s__law_roll) l1 c1 k1
  have B1 : Binds K _ ["_law_dice_here", "_law_most"] [] := F1.binds (ps := ["_law_dice_here", "_law_most"]) fun _ _ _ _ _ _ us hl => match us, hl with | [_, _], _ => rfl
  have K1 : FnOk l.prog w K mg base CX0 1 f1 _ ["_law_dice_here", "_law_most"] (spR G 2 R_roll) := ok__law_roll (G := G) F1 Bm 
  have h__law_roll : Has l.prog w K mg base "_law_roll" 1 ["_law_dice_here", "_law_most"] (spR G 2 R_roll) := ⟨_, _, K1, PySem.W.mg_of X GN a1, k1, B1⟩
  have F2 := fun_mk (st := s__law_pick) l2 c2 k2
  have B2 : Binds K _ ["_law_dice_here", "_law_items"] [] := F2.binds (ps := ["_law_dice_here", "_law_items"]) fun _ _ _ _ _ _ us hl => match us, hl with | [_, _], _ => rfl
  have K2 : FnOk l.prog w K mg base CX0 2 f2 _ ["_law_dice_here", "_law_items"] (spR G 2 R_pick) := ok__law_pick (G := G) F2 Bm h__law_roll
  have h__law_pick : Has l.prog w K mg base "_law_pick" 2 ["_law_dice_here", "_law_items"] (spR G 2 R_pick) := ⟨_, _, K2, PySem.W.mg_of X GN a2, k2, B2⟩
  have F3 := fun_mk (st := s__law_zw_bound) l3 c3 k3
  have B3 : Binds K _ ["_law_dice_here", "_law_unit"] [] := F3.binds (ps := ["_law_dice_here", "_law_unit"]) fun _ _ _ _ _ _ us hl => match us, hl with | [_, _], _ => rfl
  have K3 : FnOk l.prog w K mg base CX0 2 f3 _ ["_law_dice_here", "_law_unit"] (spR G 2 R_zbound) := ok__law_zw_bound (G := G) F3 Bm h__law_roll
  have h__law_zw_bound : Has l.prog w K mg base "_law_zw_bound" 2 ["_law_dice_here", "_law_unit"] (spR G 2 R_zbound) := ⟨_, _, K3, PySem.W.mg_of X GN a3, k3, B3⟩
  have F4 := fun_mk (st := s__law_zw_drawn) l4 c4 k4
  have B4 : Binds K _ ["_law_dice_here", "_law_clocks", "_law_unit"] [] := F4.binds (ps := ["_law_dice_here", "_law_clocks", "_law_unit"]) fun _ _ _ _ _ _ us hl => match us, hl with | [_, _, _], _ => rfl
  have K4 : FnOk l.prog w K mg base CX0 3 f4 _ ["_law_dice_here", "_law_clocks", "_law_unit"] (spR G 3 R_drawn) := ok__law_zw_drawn (G := G) F4 Bm h__law_roll h__law_zw_bound h__law_pick
  have h__law_zw_drawn : Has l.prog w K mg base "_law_zw_drawn" 3 ["_law_dice_here", "_law_clocks", "_law_unit"] (spR G 3 R_drawn) := ⟨_, _, K4, PySem.W.mg_of X GN a4, k4, B4⟩
  have F5 := fun_mk (st := s__law_bent) l5 c5 k5
  have B5 : Binds K _ ["_law_dice_here", "_law_bounds", "_law_unit"] [] := F5.binds (ps := ["_law_dice_here", "_law_bounds", "_law_unit"]) fun _ _ _ _ _ _ us hl => match us, hl with | [_, _, _], _ => rfl
  have K5 : FnOk l.prog w K mg base CX0 3 f5 _ ["_law_dice_here", "_law_bounds", "_law_unit"] (spR G 3 R_bent) := ok__law_bent (G := G) F5 Bm h__law_zw_bound h__law_pick
  have h__law_bent : Has l.prog w K mg base "_law_bent" 3 ["_law_dice_here", "_law_bounds", "_law_unit"] (spR G 3 R_bent) := ⟨_, _, K5, PySem.W.mg_of X GN a5, k5, B5⟩
  have F6 := fun_mk (st := s_is_whole) l6 c6 k6
  have B6 : Binds K _ ["value"] [] := F6.binds (ps := ["value"]) fun _ _ _ _ _ _ us hl => match us, hl with | [_], _ => rfl
  have K6 : FnOk l.prog w K mg base CX0 1 f6 _ ["value"] (spE G 1 R_is_whole) := ok_is_whole (G := G) F6 Bm 
  have h_is_whole : Has l.prog w K mg base "is_whole" 1 ["value"] (spE G 1 R_is_whole) := ⟨_, _, K6, PySem.W.mg_of X GN a6, k6, B6⟩
  have F7 := fun_mk (st := s_is_from) l7 c7 k7
  have B7 : Binds K _ ["value", "least", "most"] [] := F7.binds (ps := ["value", "least", "most"]) fun _ _ _ _ _ _ us hl => match us, hl with | [_, _, _], _ => rfl
  have K7 : FnOk l.prog w K mg base CX0 2 f7 _ ["value", "least", "most"] (spE G 3 R_is_from) := ok_is_from (G := G) F7 Bm h_is_whole
  have h_is_from : Has l.prog w K mg base "is_from" 2 ["value", "least", "most"] (spE G 3 R_is_from) := ⟨_, _, K7, PySem.W.mg_of X GN a7, k7, B7⟩
  have F8 := fun_mk (st := s_require_from) l8 c8 k8
  have B8 : Binds K _ ["value", "least", "most"] [] := F8.binds (ps := ["value", "least", "most"]) fun _ _ _ _ _ _ us hl => match us, hl with | [_, _, _], _ => rfl
  have K8 : FnOk l.prog w K mg base CX0 3 f8 _ ["value", "least", "most"] (spE G 3 R_require_from) := ok_require_from (G := G) F8 Bm h_is_from
  have h_require_from : Has l.prog w K mg base "require_from" 3 ["value", "least", "most"] (spE G 3 R_require_from) := ⟨_, _, K8, PySem.W.mg_of X GN a8, k8, B8⟩
  have F9 := fun_mk (st := s_is_short) l9 c9 k9
  have B9 : Binds K _ ["value"] [] := F9.binds (ps := ["value"]) fun _ _ _ _ _ _ us hl => match us, hl with | [_], _ => rfl
  have K9 : FnOk l.prog w K mg base CX0 2 f9 _ ["value"] (spE G 1 R_is_short) := ok_is_short (G := G) F9 Bm h_is_whole
  have h_is_short : Has l.prog w K mg base "is_short" 2 ["value"] (spE G 1 R_is_short) := ⟨_, _, K9, PySem.W.mg_of X GN a9, k9, B9⟩
  have F10 := fun_mk (st := s_is_bounds_row) l10 c10 k10
  have B10 : Binds K _ ["value", "clocks"] [] := F10.binds (ps := ["value", "clocks"]) fun _ _ _ _ _ _ us hl => match us, hl with | [_, _], _ => rfl
  have K10 : FnOk l.prog w K mg base CX0 3 f10 _ ["value", "clocks"] (spE G 2 R_is_bounds_row) := ok_is_bounds_row (G := G) F10 Bm h_is_short
  have h_is_bounds_row : Has l.prog w K mg base "is_bounds_row" 3 ["value", "clocks"] (spE G 2 R_is_bounds_row) := ⟨_, _, K10, PySem.W.mg_of X GN a10, k10, B10⟩
  have F11 := fun_mk (st := s_is_bounds) l11 c11 k11
  have B11 : Binds K _ ["value", "clocks"] [] := F11.binds (ps := ["value", "clocks"]) fun _ _ _ _ _ _ us hl => match us, hl with | [_, _], _ => rfl
  have K11 : FnOk l.prog w K mg base CX0 4 f11 _ ["value", "clocks"] (spE G 2 R_is_bounds) := ok_is_bounds (G := G) F11 Bm h_is_bounds_row
  have h_is_bounds : Has l.prog w K mg base "is_bounds" 4 ["value", "clocks"] (spE G 2 R_is_bounds) := ⟨_, _, K11, PySem.W.mg_of X GN a11, k11, B11⟩
  have F12 := fun_mk (st := s_told_bounds) l12 c12 k12
  have B12 : Binds K _ ["clocks", "unit", "bounds"] [] := F12.binds (ps := ["clocks", "unit", "bounds"]) fun _ _ _ _ _ _ us hl => match us, hl with | [_, _, _], _ => rfl
  have K12 : FnOk l.prog w K mg base CX0 5 f12 _ ["clocks", "unit", "bounds"] (spE G 3 R_told_bounds) := ok_told_bounds (G := G) F12 Bm h_require_from h_is_bounds
  have h_told_bounds : Has l.prog w K mg base "told_bounds" 5 ["clocks", "unit", "bounds"] (spE G 3 R_told_bounds) := ⟨_, _, K12, PySem.W.mg_of X GN a12, k12, B12⟩
  have F13 := fun_mk (st := s_lesser) l13 c13 k13
  have B13 : Binds K _ ["one", "other"] [] := F13.binds (ps := ["one", "other"]) fun _ _ _ _ _ _ us hl => match us, hl with | [_, _], _ => rfl
  have K13 : FnOk l.prog w K mg base CX0 1 f13 _ ["one", "other"] (spE G 2 R_lesser) := ok_lesser (G := G) F13 Bm 
  have h_lesser : Has l.prog w K mg base "lesser" 1 ["one", "other"] (spE G 2 R_lesser) := ⟨_, _, K13, PySem.W.mg_of X GN a13, k13, B13⟩
  have F14 := fun_mk (st := s_counted_at) l14 c14 k14
  have B14 : Binds K _ ["bounds", "first", "last"] [] := F14.binds (ps := ["bounds", "first", "last"]) fun _ _ _ _ _ _ us hl => match us, hl with | [_, _, _], _ => rfl
  have K14 : FnOk l.prog w K mg base CX0 2 f14 _ ["bounds", "first", "last"] (spE G 3 R_counted_at) := ok_counted_at (G := G) F14 Bm h_lesser
  have h_counted_at : Has l.prog w K mg base "counted_at" 2 ["bounds", "first", "last"] (spE G 3 R_counted_at) := ⟨_, _, K14, PySem.W.mg_of X GN a14, k14, B14⟩
  have F15 := fun_mk (st := s_counted) l15 c15 k15
  have B15 : Binds K _ ["bounds"] [] := F15.binds (ps := ["bounds"]) fun _ _ _ _ _ _ us hl => match us, hl with | [_], _ => rfl
  have K15 : FnOk l.prog w K mg base CX0 3 f15 _ ["bounds"] (spE G 1 R_counted) := ok_counted (G := G) F15 Bm h_counted_at
  have h_counted : Has l.prog w K mg base "counted" 3 ["bounds"] (spE G 1 R_counted) := ⟨_, _, K15, PySem.W.mg_of X GN a15, k15, B15⟩
  have F16 := fun_mk (st := s_added) l16 c16 k16
  have B16 : Binds K _ ["one", "other"] [] := F16.binds (ps := ["one", "other"]) fun _ _ _ _ _ _ us hl => match us, hl with | [_, _], _ => rfl
  have K16 : FnOk l.prog w K mg base CX0 1 f16 _ ["one", "other"] (spE G 2 R_added) := ok_added (G := G) F16 Bm 
  have h_added : Has l.prog w K mg base "added" 1 ["one", "other"] (spE G 2 R_added) := ⟨_, _, K16, PySem.W.mg_of X GN a16, k16, B16⟩
  have F17 := fun_mk (st := s_closed_rows) l17 c17 k17
  have B17 : Binds K _ ["rows"] [] := F17.binds (ps := ["rows"]) fun _ _ _ _ _ _ us hl => match us, hl with | [_], _ => rfl
  have K17 : FnOk l.prog w K mg base CX0 2 f17 _ ["rows"] (spE G 1 R_closed_rows) := ok_closed_rows (G := G) F17 Bm h_added h_lesser
  have h_closed_rows : Has l.prog w K mg base "closed_rows" 2 ["rows"] (spE G 1 R_closed_rows) := ⟨_, _, K17, PySem.W.mg_of X GN a17, k17, B17⟩
  have F18 := fun_mk (st := s_closed_form) l18 c18 k18
  have B18 : Binds K _ ["bounds"] [] := F18.binds (ps := ["bounds"]) fun _ _ _ _ _ _ us hl => match us, hl with | [_], _ => rfl
  have K18 : FnOk l.prog w K mg base CX0 4 f18 _ ["bounds"] (spE G 1 R_closed_form) := ok_closed_form (G := G) F18 Bm h_counted h_closed_rows
  have h_closed_form : Has l.prog w K mg base "closed_form" 4 ["bounds"] (spE G 1 R_closed_form) := ⟨_, _, K18, PySem.W.mg_of X GN a18, k18, B18⟩
  have F19 := fun_mk (st := s_Zone_init) l19 c19 k19
  have B19 : Binds K _ ["self", "clocks", "unit", "bounds"] [] := F19.binds (ps := ["self", "clocks", "unit", "bounds"]) fun _ _ _ _ _ _ us hl => match us, hl with | [_, _, _, _], _ => rfl
  have K19 : FnOk l.prog w K mg base CX0 6 f19 _ ["self", "clocks", "unit", "bounds"] (spI G G.Z 3 R_zi) := ok_Zone_init (G := G) F19 Bm Zf h_told_bounds h_closed_form
  have h_Zone : HasI l.prog w K mg base "Zone" Z 6 ["self", "clocks", "unit", "bounds"] (spI G G.Z 3 R_zi) := ⟨⟨_, _, K19, ⟨mkZ, a19, i19, kcZ⟩, B19⟩, PySem.W.mg_of X GN aZ⟩
  have F20 := fun_mk (st := s__law_zw_rows) l20 c20 k20
  have B20 : Binds K _ ["_law_size", "_law_begin", "_law_goal"] [] := F20.binds (ps := ["_law_size", "_law_begin", "_law_goal"]) fun _ _ _ _ _ _ us hl => match us, hl with | [_, _, _], _ => rfl
  have K20 : FnOk l.prog w K mg base CX0 1 f20 _ ["_law_size", "_law_begin", "_law_goal"] (spE G 3 R_z_rows) := ok__law_zw_rows (G := G) F20 Bm 
  have h__law_zw_rows : Has l.prog w K mg base "_law_zw_rows" 1 ["_law_size", "_law_begin", "_law_goal"] (spE G 3 R_z_rows) := ⟨_, _, K20, PySem.W.mg_of X GN a20, k20, B20⟩
  have F21 := fun_mk (st := s__law_zw_counted) l21 c21 k21
  have B21 : Binds K _ ["_law_bounds", "_law_i", "_law_j"] [] := F21.binds (ps := ["_law_bounds", "_law_i", "_law_j"]) fun _ _ _ _ _ _ us hl => match us, hl with | [_, _, _], _ => rfl
  have K21 : FnOk l.prog w K mg base CX0 1 f21 _ ["_law_bounds", "_law_i", "_law_j"] (spE G 3 R_z_counted) := ok__law_zw_counted (G := G) F21 Bm 
  have h__law_zw_counted : Has l.prog w K mg base "_law_zw_counted" 1 ["_law_bounds", "_law_i", "_law_j"] (spE G 3 R_z_counted) := ⟨_, _, K21, PySem.W.mg_of X GN a21, k21, B21⟩
  have F22 := fun_mk (st := s__law_zw_sum) l22 c22 k22
  have B22 : Binds K _ ["_law_bounds", "_law_row"] [] := F22.binds (ps := ["_law_bounds", "_law_row"]) fun _ _ _ _ _ _ us hl => match us, hl with | [_, _], _ => rfl
  have K22 : FnOk l.prog w K mg base CX0 2 f22 _ ["_law_bounds", "_law_row"] (spE G 2 R_z_sum) := ok__law_zw_sum (G := G) F22 Bm h__law_zw_counted
  have h__law_zw_sum : Has l.prog w K mg base "_law_zw_sum" 2 ["_law_bounds", "_law_row"] (spE G 2 R_z_sum) := ⟨_, _, K22, PySem.W.mg_of X GN a22, k22, B22⟩
  have F23 := fun_mk (st := s__law_zw_round_sum) l23 c23 k23
  have B23 : Binds K _ ["_law_bounds", "_law_value"] [] := F23.binds (ps := ["_law_bounds", "_law_value"]) fun _ _ _ _ _ _ us hl => match us, hl with | [_, _], _ => rfl
  have K23 : FnOk l.prog w K mg base CX0 3 f23 _ ["_law_bounds", "_law_value"] (spE G 2 R_z_round) := ok__law_zw_round_sum (G := G) F23 Bm h__law_zw_sum
  have h__law_zw_round_sum : Has l.prog w K mg base "_law_zw_round_sum" 3 ["_law_bounds", "_law_value"] (spE G 2 R_z_round) := ⟨_, _, K23, PySem.W.mg_of X GN a23, k23, B23⟩
  have F24 := fun_mk (st := s__law_zw_is_empty) l24 c24 k24
  have B24 : Binds K _ ["_law_bounds"] [] := F24.binds (ps := ["_law_bounds"]) fun _ _ _ _ _ _ us hl => match us, hl with | [_], _ => rfl
  have K24 : FnOk l.prog w K mg base CX0 4 f24 _ ["_law_bounds"] (spE G 1 R_z_empty) := ok__law_zw_is_empty (G := G) F24 Bm h__law_zw_rows h__law_zw_round_sum
  have h__law_zw_is_empty : Has l.prog w K mg base "_law_zw_is_empty" 4 ["_law_bounds"] (spE G 1 R_z_empty) := ⟨_, _, K24, PySem.W.mg_of X GN a24, k24, B24⟩
  have F25 := fun_mk (st := s__law_zw_closed) l25 c25 k25
  have B25 : Binds K _ ["_law_bounds"] [] := F25.binds (ps := ["_law_bounds"]) fun _ _ _ _ _ _ us hl => match us, hl with | [_], _ => rfl
  have K25 : FnOk l.prog w K mg base CX0 5 f25 _ ["_law_bounds"] (spE G 1 R_z_closed) := ok__law_zw_closed (G := G) F25 Bm h__law_zw_is_empty h__law_zw_sum h__law_zw_rows
  have h__law_zw_closed : Has l.prog w K mg base "_law_zw_closed" 5 ["_law_bounds"] (spE G 1 R_z_closed) := ⟨_, _, K25, PySem.W.mg_of X GN a25, k25, B25⟩
  have F26 := fun_mk (st := s__law_zw_within) l26 c26 k26
  have B26 : Binds K _ ["_law_one", "_law_other"] [] := F26.binds (ps := ["_law_one", "_law_other"]) fun _ _ _ _ _ _ us hl => match us, hl with | [_, _], _ => rfl
  have K26 : FnOk l.prog w K mg base CX0 1 f26 _ ["_law_one", "_law_other"] (spE G 2 R_z_within) := ok__law_zw_within (G := G) F26 Bm 
  have h__law_zw_within : Has l.prog w K mg base "_law_zw_within" 1 ["_law_one", "_law_other"] (spE G 2 R_z_within) := ⟨_, _, K26, PySem.W.mg_of X GN a26, k26, B26⟩
  have F27 := fun_mk (st := s_require_zone) l27 c27 k27
  have B27 : Binds K _ ["value"] [] := F27.binds (ps := ["value"]) fun _ _ _ _ _ _ us hl => match us, hl with | [_], _ => rfl
  have K27 : FnOk l.prog w K mg base CX0 1 f27 _ ["value"] (spE G 1 R_require_zone) := ok_require_zone (G := G) F27 Bm Zf
  have h_require_zone : Has l.prog w K mg base "require_zone" 1 ["value"] (spE G 1 R_require_zone) := ⟨_, _, K27, PySem.W.mg_of X GN a27, k27, B27⟩
  have F28 := fun_mk (st := s_require_like) l28 c28 k28
  have B28 : Binds K _ ["zone", "value"] [] := F28.binds (ps := ["zone", "value"]) fun _ _ _ _ _ _ us hl => match us, hl with | [_, _], _ => rfl
  have K28 : FnOk l.prog w K mg base CX0 2 f28 _ ["zone", "value"] (spE G 2 R_require_like) := ok_require_like (G := G) F28 Bm Zf h_require_zone
  have h_require_like : Has l.prog w K mg base "require_like" 2 ["zone", "value"] (spE G 2 R_require_like) := ⟨_, _, K28, PySem.W.mg_of X GN a28, k28, B28⟩
  have F29 := fun_mk (st := s_is_at_most) l29 c29 k29
  have B29 : Binds K _ ["one", "other"] [] := F29.binds (ps := ["one", "other"]) fun _ _ _ _ _ _ us hl => match us, hl with | [_, _], _ => rfl
  have K29 : FnOk l.prog w K mg base CX0 1 f29 _ ["one", "other"] (spE G 2 R_is_at_most) := ok_is_at_most (G := G) F29 Bm 
  have h_is_at_most : Has l.prog w K mg base "is_at_most" 1 ["one", "other"] (spE G 2 R_is_at_most) := ⟨_, _, K29, PySem.W.mg_of X GN a29, k29, B29⟩
  have F30 := fun_mk (st := s_greater_at) l30 c30 k30
  have B30 : Binds K _ ["zone", "other"] [] := F30.binds (ps := ["zone", "other"]) fun _ _ _ _ _ _ us hl => match us, hl with | [_, _], _ => rfl
  have K30 : FnOk l.prog w K mg base CX0 2 f30 _ ["zone", "other"] (spE G 2 R_greater_at) := ok_greater_at (G := G) F30 Bm Zf h_is_at_most
  have h_greater_at : Has l.prog w K mg base "greater_at" 2 ["zone", "other"] (spE G 2 R_greater_at) := ⟨_, _, K30, PySem.W.mg_of X GN a30, k30, B30⟩
  have F31 := fun_mk (st := s_Zone_is_within) l31 c31 k31
  have B31 : Binds K _ ["self", "other"] [] := F31.binds (ps := ["self", "other"]) fun _ _ _ _ _ _ us hl => match us, hl with | [_, _], _ => rfl
  have K31 : FnOk l.prog w K mg base CX0 3 f31 _ ["self", "other"] (spE G 2 R_is_within) := ok_Zone_is_within (G := G) F31 Bm Zf h_require_like h_greater_at
  have h_is_within : HasM l.prog w K mg base Z "is_within" 3 (spE G 2 R_is_within) := ⟨_, fnR_of K31 B31, a31, i31, k31⟩
  have F32 := fun_mk (st := s_shared_in) l32 c32 k32
  have B32 : Binds K _ ["one", "other"] [] := F32.binds (ps := ["one", "other"]) fun _ _ _ _ _ _ us hl => match us, hl with | [_, _], _ => rfl
  have K32 : FnOk l.prog w K mg base CX0 1 f32 _ ["one", "other"] (spE G 2 R_shared_in) := ok_shared_in (G := G) F32 Bm 
  have h_shared_in : Has l.prog w K mg base "shared_in" 1 ["one", "other"] (spE G 2 R_shared_in) := ⟨_, _, K32, PySem.W.mg_of X GN a32, k32, B32⟩
  have F33 := fun_mk (st := s_lowest) l33 c33 k33
  have B33 : Binds K _ ["top", "bottom"] [] := F33.binds (ps := ["top", "bottom"]) fun _ _ _ _ _ _ us hl => match us, hl with | [_, _], _ => rfl
  have K33 : FnOk l.prog w K mg base CX0 2 f33 _ ["top", "bottom"] (spE G 2 R_lowest) := ok_lowest (G := G) F33 Bm h_shared_in
  have h_lowest : Has l.prog w K mg base "lowest" 2 ["top", "bottom"] (spE G 2 R_lowest) := ⟨_, _, K33, PySem.W.mg_of X GN a33, k33, B33⟩
  have F34 := fun_mk (st := s_least_of) l34 c34 k34
  have B34 : Binds K _ ["closed", "unit"] [] := F34.binds (ps := ["closed", "unit"]) fun _ _ _ _ _ _ us hl => match us, hl with | [_, _], _ => rfl
  have K34 : FnOk l.prog w K mg base CX0 3 f34 _ ["closed", "unit"] (spE G 2 R_least_of) := ok_least_of (G := G) F34 Bm h_lowest
  have h_least_of : Has l.prog w K mg base "least_of" 3 ["closed", "unit"] (spE G 2 R_least_of) := ⟨_, _, K34, PySem.W.mg_of X GN a34, k34, B34⟩
  have F35 := fun_mk (st := s_with_bound) l35 c35 k35
  have B35 : Binds K _ ["bounds", "first", "last", "number"] [] := F35.binds (ps := ["bounds", "first", "last", "number"]) fun _ _ _ _ _ _ us hl => match us, hl with | [_, _, _, _], _ => rfl
  have K35 : FnOk l.prog w K mg base CX0 2 f35 _ ["bounds", "first", "last", "number"] (spE G 4 R_with_bound) := ok_with_bound (G := G) F35 Bm h_lesser
  have h_with_bound : Has l.prog w K mg base "with_bound" 2 ["bounds", "first", "last", "number"] (spE G 4 R_with_bound) := ⟨_, _, K35, PySem.W.mg_of X GN a35, k35, B35⟩
  have F36 := fun_mk (st := s_point_with) l36 c36 k36
  have B36 : Binds K _ ["zone", "first", "last", "number"] [] := F36.binds (ps := ["zone", "first", "last", "number"]) fun _ _ _ _ _ _ us hl => match us, hl with | [_, _, _, _], _ => rfl
  have K36 : FnOk l.prog w K mg base CX0 5 f36 _ ["zone", "first", "last", "number"] (spE G 4 R_point_with) := ok_point_with (G := G) F36 Bm Zf h_with_bound h_closed_form h_least_of
  have h_point_with : Has l.prog w K mg base "point_with" 5 ["zone", "first", "last", "number"] (spE G 4 R_point_with) := ⟨_, _, K36, PySem.W.mg_of X GN a36, k36, B36⟩
  have F37 := fun_mk (st := s_Zone_outside) l37 c37 k37
  have B37 : Binds K _ ["self", "other"] [] := F37.binds (ps := ["self", "other"]) fun _ _ _ _ _ _ us hl => match us, hl with | [_, _], _ => rfl
  have K37 : FnOk l.prog w K mg base CX0 6 f37 _ ["self", "other"] (spE G 2 R_outside) := ok_Zone_outside (G := G) F37 Bm Zf h_require_like h_greater_at h_least_of h_point_with
  have h_outside : HasM l.prog w K mg base Z "outside" 6 (spE G 2 R_outside) := ⟨_, fnR_of K37 B37, a37, i37, k37⟩
  have F38 := fun_mk (st := s__law_zw_shared) l38 c38 k38
  have B38 : Binds K _ ["_law_one", "_law_other"] [] := F38.binds (ps := ["_law_one", "_law_other"]) fun _ _ _ _ _ _ us hl => match us, hl with | [_, _], _ => rfl
  have K38 : FnOk l.prog w K mg base CX0 1 f38 _ ["_law_one", "_law_other"] (spE G 2 R_z_shared) := ok__law_zw_shared (G := G) F38 Bm 
  have h__law_zw_shared : Has l.prog w K mg base "_law_zw_shared" 1 ["_law_one", "_law_other"] (spE G 2 R_z_shared) := ⟨_, _, K38, PySem.W.mg_of X GN a38, k38, B38⟩
  have F39 := fun_mk (st := s__law_zw_are_readings) l39 c39 k39
  have B39 : Binds K _ ["_law_value", "_law_clocks"] [] := F39.binds (ps := ["_law_value", "_law_clocks"]) fun _ _ _ _ _ _ us hl => match us, hl with | [_, _], _ => rfl
  have K39 : FnOk l.prog w K mg base CX0 2 f39 _ ["_law_value", "_law_clocks"] (spE G 2 R_z_readings) := ok__law_zw_are_readings (G := G) F39 Bm h__law_zw_shared
  have h__law_zw_are_readings : Has l.prog w K mg base "_law_zw_are_readings" 2 ["_law_value", "_law_clocks"] (spE G 2 R_z_readings) := ⟨_, _, K39, PySem.W.mg_of X GN a39, k39, B39⟩
  have F40 := fun_mk (st := s__law_zw_has) l40 c40 k40
  have B40 : Binds K _ ["_law_unit", "_law_bounds", "_law_readings"] [] := F40.binds (ps := ["_law_unit", "_law_bounds", "_law_readings"]) fun _ _ _ _ _ _ us hl => match us, hl with | [_, _, _], _ => rfl
  have K40 : FnOk l.prog w K mg base CX0 1 f40 _ ["_law_unit", "_law_bounds", "_law_readings"] (spE G 3 R_z_has) := ok__law_zw_has (G := G) F40 Bm 
  have h__law_zw_has : Has l.prog w K mg base "_law_zw_has" 1 ["_law_unit", "_law_bounds", "_law_readings"] (spE G 3 R_z_has) := ⟨_, _, K40, PySem.W.mg_of X GN a40, k40, B40⟩
  have F41 := fun_mk (st := s__law_outside_right) l41 c41 k41
  have B41 : Binds K _ ["_law_unit", "_law_one", "_law_other", "_law_told", "_law_is_due"] [] := F41.binds (ps := ["_law_unit", "_law_one", "_law_other", "_law_told", "_law_is_due"]) fun _ _ _ _ _ _ us hl => match us, hl with | [_, _, _, _, _], _ => rfl
  have K41 : FnOk l.prog w K mg base CX0 3 f41 _ ["_law_unit", "_law_one", "_law_other", "_law_told", "_law_is_due"] (spE G 5 R_z_outside) := ok__law_outside_right (G := G) F41 Bm h__law_zw_are_readings h__law_zw_has
  have h__law_outside_right : Has l.prog w K mg base "_law_outside_right" 3 ["_law_unit", "_law_one", "_law_other", "_law_told", "_law_is_due"] (spE G 5 R_z_outside) := ⟨_, _, K41, PySem.W.mg_of X GN a41, k41, B41⟩
  have F42 := fun_mk (st := s_KnownBounds_init) l42 c42 k42
  have B42 : Binds K _ ["self", "rows"] [] := F42.binds (ps := ["self", "rows"]) fun _ _ _ _ _ _ us hl => match us, hl with | [_, _], _ => rfl
  have K42 : FnOk l.prog w K mg base CX0 1 f42 _ ["self", "rows"] (spI G G.B 1 R_kb) := ok_KnownBounds_init (G := G) F42 Bm Zf
  have h_KnownBounds : HasI l.prog w K mg base "KnownBounds" B 1 ["self", "rows"] (spI G G.B 1 R_kb) := ⟨⟨_, _, K42, ⟨mkB, a42, i42, kcB⟩, B42⟩, PySem.W.mg_of X GN aB⟩
  have F43 := fun_mk (st := s_made_zone) l43 c43 k43
  have B43 : Binds K _ ["clocks", "unit", "rows"] [] := F43.binds (ps := ["clocks", "unit", "rows"]) fun _ _ _ _ _ _ us hl => match us, hl with | [_, _, _], _ => rfl
  have K43 : FnOk l.prog w K mg base CX0 8 f43 _ ["clocks", "unit", "rows"] (spE G 3 R_made_zone) := ok_made_zone (G := G) F43 Bm h_KnownBounds h_Zone
  have h_made_zone : Has l.prog w K mg base "made_zone" 8 ["clocks", "unit", "rows"] (spE G 3 R_made_zone) := ⟨_, _, K43, PySem.W.mg_of X GN a43, k43, B43⟩
  have F44 := fun_mk (st := s_Zone_met) l44 c44 k44
  have B44 : Binds K _ ["self", "other"] [] := F44.binds (ps := ["self", "other"]) fun _ _ _ _ _ _ us hl => match us, hl with | [_, _], _ => rfl
  have K44 : FnOk l.prog w K mg base CX0 9 f44 _ ["self", "other"] (spE G 2 R_met) := ok_Zone_met (G := G) F44 Bm Zf h_require_like h_lesser h_made_zone
  have h_met : HasM l.prog w K mg base Z "met" 9 (spE G 2 R_met) := ⟨_, fnR_of K44 B44, a44, i44, k44⟩
  have F45 := fun_mk (st := s_Zone_bounds) l45 c45 k45
  have B45 : Binds K _ ["self"] [] := F45.binds (ps := ["self"]) fun _ _ _ _ _ _ us hl => match us, hl with | [_], _ => rfl
  have K45 : FnOk l.prog w K mg base CX0 1 f45 _ ["self"] (spE G 1 R_bnds) := ok_Zone_bounds (G := G) F45 Bm Zf
  have h_bounds : HasP l.prog w K mg base Z "bounds" 1 (spE G 1 R_bnds) := ⟨_, _, fnR_of K45 B45, a45, x45, y45, _, z45⟩
  have F46 := fun_mk (st := s__law_both) l46 c46 k46
  have B46 : Binds K _ ["_law_one", "_law_other"] [] := F46.binds (ps := ["_law_one", "_law_other"]) fun _ _ _ _ _ _ us hl => match us, hl with | [_, _], _ => rfl
  have K46 : FnOk l.prog w K mg base CX0 1 f46 _ ["_law_one", "_law_other"] (spE G 2 R_z_both) := ok__law_both (G := G) F46 Bm 
  have h__law_both : Has l.prog w K mg base "_law_both" 1 ["_law_one", "_law_other"] (spE G 2 R_z_both) := ⟨_, _, K46, PySem.W.mg_of X GN a46, k46, B46⟩
  have F47 := fun_mk (st := s_Zone_clocks) l47 c47 k47
  have B47 : Binds K _ ["self"] [] := F47.binds (ps := ["self"]) fun _ _ _ _ _ _ us hl => match us, hl with | [_], _ => rfl
  have K47 : FnOk l.prog w K mg base CX0 1 f47 _ ["self"] (spE G 1 R_clocks) := ok_Zone_clocks (G := G) F47 Bm Zf
  have h_clocks : HasP l.prog w K mg base Z "clocks" 1 (spE G 1 R_clocks) := ⟨_, _, fnR_of K47 B47, a47, x47, y47, _, z47⟩
  have F48 := fun_mk (st := s_Zone_unit) l48 c48 k48
  have B48 : Binds K _ ["self"] [] := F48.binds (ps := ["self"]) fun _ _ _ _ _ _ us hl => match us, hl with | [_], _ => rfl
  have K48 : FnOk l.prog w K mg base CX0 1 f48 _ ["self"] (spE G 1 R_unit) := ok_Zone_unit (G := G) F48 Bm Zf
  have h_unit : HasP l.prog w K mg base Z "unit" 1 (spE G 1 R_unit) := ⟨_, _, fnR_of K48 B48, a48, x48, y48, _, z48⟩
  have F49 := fun_mk (st := s_Zone_finer) l49 c49 k49
  have B49 : Binds K _ ["self", "times"] [] := F49.binds (ps := ["self", "times"]) fun _ _ _ _ _ _ us hl => match us, hl with | [_, _], _ => rfl
  have K49 : FnOk l.prog w K mg base CX0 9 f49 _ ["self", "times"] (spE G 2 R_finer) := ok_Zone_finer (G := G) F49 Bm Zf h_is_from h_made_zone
  have h_finer : HasM l.prog w K mg base Z "finer" 9 (spE G 2 R_finer) := ⟨_, fnR_of K49 B49, a49, i49, k49⟩
  have F50 := fun_mk (st := s__law_times) l50 c50 k50
  have B50 : Binds K _ ["_law_bounds", "_law_times_here"] [] := F50.binds (ps := ["_law_bounds", "_law_times_here"]) fun _ _ _ _ _ _ us hl => match us, hl with | [_, _], _ => rfl
  have K50 : FnOk l.prog w K mg base CX0 1 f50 _ ["_law_bounds", "_law_times_here"] (spE G 2 R_z_times) := ok__law_times (G := G) F50 Bm 
  have h__law_times : Has l.prog w K mg base "_law_times" 1 ["_law_bounds", "_law_times_here"] (spE G 2 R_z_times) := ⟨_, _, K50, PySem.W.mg_of X GN a50, k50, B50⟩
  have F51 := fun_mk (st := s_Zone_is_empty) l51 c51 k51
  have B51 : Binds K _ ["self"] [] := F51.binds (ps := ["self"]) fun _ _ _ _ _ _ us hl => match us, hl with | [_], _ => rfl
  have K51 : FnOk l.prog w K mg base CX0 1 f51 _ ["self"] (spE G 1 R_is_empty) := ok_Zone_is_empty (G := G) F51 Bm Zf
  have h_is_empty : HasP l.prog w K mg base Z "is_empty" 1 (spE G 1 R_is_empty) := ⟨_, _, fnR_of K51 B51, a51, x51, y51, _, z51⟩
  have F52 := fun_mk (st := s__law_zw_fraction) l52 c52 k52
  have B52 : Binds K _ ["_law_top", "_law_bottom"] [] := F52.binds (ps := ["_law_top", "_law_bottom"]) fun _ _ _ _ _ _ us hl => match us, hl with | [_, _], _ => rfl
  have K52 : FnOk l.prog w K mg base CX0 2 f52 _ ["_law_top", "_law_bottom"] (spE G 2 R_z_fraction) := ok__law_zw_fraction (G := G) F52 Bm h__law_zw_shared
  have h__law_zw_fraction : Has l.prog w K mg base "_law_zw_fraction" 2 ["_law_top", "_law_bottom"] (spE G 2 R_z_fraction) := ⟨_, _, K52, PySem.W.mg_of X GN a52, k52, B52⟩
  have F53 := fun_mk (st := s_is_fraction) l53 c53 k53
  have B53 : Binds K _ ["value"] [] := F53.binds (ps := ["value"]) fun _ _ _ _ _ _ us hl => match us, hl with | [_], _ => rfl
  have K53 : FnOk l.prog w K mg base CX0 3 f53 _ ["value"] (spE G 1 R_is_fraction) := ok_is_fraction (G := G) F53 Bm h_is_short h_shared_in
  have h_is_fraction : Has l.prog w K mg base "is_fraction" 3 ["value"] (spE G 1 R_is_fraction) := ⟨_, _, K53, PySem.W.mg_of X GN a53, k53, B53⟩
  have F54 := fun_mk (st := s_are_readings) l54 c54 k54
  have B54 : Binds K _ ["value", "clocks"] [] := F54.binds (ps := ["value", "clocks"]) fun _ _ _ _ _ _ us hl => match us, hl with | [_, _], _ => rfl
  have K54 : FnOk l.prog w K mg base CX0 4 f54 _ ["value", "clocks"] (spE G 2 R_are_readings) := ok_are_readings (G := G) F54 Bm h_is_fraction
  have h_are_readings : Has l.prog w K mg base "are_readings" 4 ["value", "clocks"] (spE G 2 R_are_readings) := ⟨_, _, K54, PySem.W.mg_of X GN a54, k54, B54⟩
  have F55 := fun_mk (st := s_point_zone) l55 c55 k55
  have B55 : Binds K _ ["readings", "unit"] [] := F55.binds (ps := ["readings", "unit"]) fun _ _ _ _ _ _ us hl => match us, hl with | [_, _], _ => rfl
  have K55 : FnOk l.prog w K mg base CX0 9 f55 _ ["readings", "unit"] (spE G 2 R_point_zone) := ok_point_zone (G := G) F55 Bm h_are_readings h_require_from h_made_zone
  have h_point_zone : Has l.prog w K mg base "point_zone" 9 ["readings", "unit"] (spE G 2 R_point_zone) := ⟨_, _, K55, PySem.W.mg_of X GN a55, k55, B55⟩
  have F56 := fun_mk (st := s_require_point) l56 c56 k56
  have B56 : Binds K _ ["zone"] [] := F56.binds (ps := ["zone"]) fun _ _ _ _ _ _ us hl => match us, hl with | [_], _ => rfl
  have K56 : FnOk l.prog w K mg base CX0 1 f56 _ ["zone"] (spE G 1 R_require_point) := ok_require_point (G := G) F56 Bm Zf
  have h_require_point : Has l.prog w K mg base "require_point" 1 ["zone"] (spE G 1 R_require_point) := ⟨_, _, K56, PySem.W.mg_of X GN a56, k56, B56⟩
  have F57 := fun_mk (st := s_Zone_least) l57 c57 k57
  have B57 : Binds K _ ["self"] [] := F57.binds (ps := ["self"]) fun _ _ _ _ _ _ us hl => match us, hl with | [_], _ => rfl
  have K57 : FnOk l.prog w K mg base CX0 4 f57 _ ["self"] (spE G 1 R_least) := ok_Zone_least (G := G) F57 Bm Zf h_require_point h_least_of
  have h_least : HasM l.prog w K mg base Z "least" 4 (spE G 1 R_least) := ⟨_, fnR_of K57 B57, a57, i57, k57⟩
  have F58 := fun_mk (st := s_Zone_edge) l58 c58 k58
  have B58 : Binds K _ ["self", "first", "last"] [] := F58.binds (ps := ["self", "first", "last"]) fun _ _ _ _ _ _ us hl => match us, hl with | [_, _, _], _ => rfl
  have K58 : FnOk l.prog w K mg base CX0 6 f58 _ ["self", "first", "last"] (spE G 3 R_edge) := ok_Zone_edge (G := G) F58 Bm Zf h_require_from h_require_point h_point_with
  have h_edge : HasM l.prog w K mg base Z "edge" 6 (spE G 3 R_edge) := ⟨_, fnR_of K58 B58, a58, i58, k58⟩
  have F59 := fun_mk (st := s_whole_zone) l59 c59 k59
  have B59 : Binds K _ ["clocks", "unit"] [] := F59.binds (ps := ["clocks", "unit"]) fun _ _ _ _ _ _ us hl => match us, hl with | [_, _], _ => rfl
  have K59 : FnOk l.prog w K mg base CX0 8 f59 _ ["clocks", "unit"] (spE G 2 R_whole_zone) := ok_whole_zone (G := G) F59 Bm Zf h_require_from h_Zone
  have h_whole_zone : Has l.prog w K mg base "whole_zone" 8 ["clocks", "unit"] (spE G 2 R_whole_zone) := ⟨_, _, K59, PySem.W.mg_of X GN a59, k59, B59⟩
  have F60 := fun_mk (st := s_require_readings) l60 c60 k60
  have B60 : Binds K _ ["value", "clocks"] [] := F60.binds (ps := ["value", "clocks"]) fun _ _ _ _ _ _ us hl => match us, hl with | [_, _], _ => rfl
  have K60 : FnOk l.prog w K mg base CX0 5 f60 _ ["value", "clocks"] (spE G 2 R_require_readings) := ok_require_readings (G := G) F60 Bm h_are_readings
  have h_require_readings : Has l.prog w K mg base "require_readings" 5 ["value", "clocks"] (spE G 2 R_require_readings) := ⟨_, _, K60, PySem.W.mg_of X GN a60, k60, B60⟩
  have F61 := fun_mk (st := s_is_kept) l61 c61 k61
  have B61 : Binds K _ ["readings", "first", "last", "number", "unit"] [] := F61.binds (ps := ["readings", "first", "last", "number", "unit"]) fun _ _ _ _ _ _ us hl => match us, hl with | [_, _, _, _, _], _ => rfl
  have K61 : FnOk l.prog w K mg base CX0 1 f61 _ ["readings", "first", "last", "number", "unit"] (spE G 5 R_is_kept) := ok_is_kept (G := G) F61 Bm 
  have h_is_kept : Has l.prog w K mg base "is_kept" 1 ["readings", "first", "last", "number", "unit"] (spE G 5 R_is_kept) := ⟨_, _, K61, PySem.W.mg_of X GN a61, k61, B61⟩
  have F62 := fun_mk (st := s_Zone_has) l62 c62 k62
  have B62 : Binds K _ ["self", "readings"] [] := F62.binds (ps := ["self", "readings"]) fun _ _ _ _ _ _ us hl => match us, hl with | [_, _], _ => rfl
  have K62 : FnOk l.prog w K mg base CX0 6 f62 _ ["self", "readings"] (spE G 2 R_has) := ok_Zone_has (G := G) F62 Bm Zf h_require_readings h_is_kept
  have h_has : HasM l.prog w K mg base Z "has" 6 (spE G 2 R_has) := ⟨_, fnR_of K62 B62, a62, i62, k62⟩
  have F63 := fun_mk (st := s_Zone_eq) l63 c63 k63
  have B63 : Binds K _ ["self", "other"] [] := F63.binds (ps := ["self", "other"]) fun _ _ _ _ _ _ us hl => match us, hl with | [_, _], _ => rfl
  have K63 : FnOk l.prog w K mg base CX0 1 f63 _ ["self", "other"] (spE G 2 R_eq) := ok_Zone_eq (G := G) F63 Bm Zf
  have h_eq : HasE l.prog w K mg base Z 1 (spE G 2 R_eq) := ⟨⟨_, fnR_of K63 B63, a63, i63⟩, cmZ, ne⟩
  have F64 := fun_mk (st := s__law_right) l64 c64 k64
  have B64 : Binds K _ ["_law_dice_here"] [] := F64.binds (ps := ["_law_dice_here"]) fun _ _ _ _ _ _ us hl => match us, hl with | [_], _ => rfl
  have K64 : FnOk l.prog w K mg base CX0 10 f64 _ ["_law_dice_here"] (spR G 1 R_right) := ok__law_right (G := G) F64 Bm Zf h_eq h__law_roll h__law_pick h__law_zw_drawn h__law_bent h_Zone h__law_zw_closed h__law_zw_within h_is_within h_outside h__law_outside_right h_met h_bounds h__law_both h_clocks h_unit h_finer h__law_times h_is_empty h__law_zw_fraction h_point_zone h_least h_edge h__law_zw_has h_whole_zone h_has
  have h__law_right : Has l.prog w K mg base "_law_right" 10 ["_law_dice_here"] (spR G 1 R_right) := ⟨_, _, K64, PySem.W.mg_of X GN a64, k64, B64⟩
  have F65 := fun_mk (st := s_law) l65 c65 k65
  exact ok_law (G := G) F65 Bm Zf h__law_dice h__law_right h_Zone h_whole_zone h_is_within h_outside h_is_empty h_finer h_unit h_bounds
theorem walk {l : PySem.W.OpenLaw} {q : Program} {loose : List Str} {XP : (Str → Option Value) → Heap → Prop} {YP : World → Heap → Prop} {d : DefRec} {K : Params → PySem.W.Frag} (hn : l.most = some 63) (hdf : d.params.defaults = [])
    (hY : ∀ (w : World) (h : Heap), YP w h → (K w.params).In h)
    (F : ∀ (w : World) (mg : Str → Option Value) (fa : Addr) (h : Heap), (K w.params).In h → h.Ns mainGlobals mg → mg d.name = some (.ref fa) →
      ∃ fd : FuncData, (∀ (s : Shared) (u : Value), BindsTo s fd ⟨[u], []⟩ [("_law_script", u)]) ∧ ∀ base : Heap, (K w.params).In base → base.Ns mainGlobals mg → FnOk l.prog w (K w.params) mg base CX0 11 fa fd ["_law_script"] (spLaw ⟨K w.params, 0, 0, none⟩)) :
    PySem.W.WalkO q loose XP YP l.row.toRowW d [] (fun f vs => PySem.call f vs) :=
  L2.walk_of (n := 63) (k := 11) (x := "_law_script") (CX := fun _ => CX0) (sp := fun w => spLaw ⟨K w.params, 0, 0, none⟩) hn (by decide) hdf ⟨rfl, by decide, by decide⟩ hY F (fun _ _ a ns hl _ hS => ⟨a, ns, rfl, hS, hl, fun _ => rfl⟩) fun _ _ _ _ _ z => z
end Ek
end

set_option Elab.async false
set_option linter.all false
open PySem PySem.W PyProof.Rows
set_option maxRecDepth 100000 in
set_option maxHeartbeats 0 in
theorem PySem.Challenge.cw_anymargin_k18_whole_zones_within_and_bot_holds : PySem.Challenge.rw_anymargin_k18_whole_zones_within_and_bot.Holds := by
  w_on; o_law; k_head; (case hw => w_witness2)
  k_fill
  refine Ek.walk (l := PySem.Challenge.rw_anymargin_k18_whole_zones_within_and_bot) rfl rfl (fun w h Y => PySem.W.kIn_of Y) ?F
  case F =>
    intro w mg fa h KX G hmg
    refine' Ek.all_mk KX G hmg ?aZ ?aB ?a0 ?l0 ?c0 ?k0 ?a1 ?l1 ?c1 ?k1 ?a2 ?l2 ?c2 ?k2 ?a3 ?l3 ?c3 ?k3 ?a4 ?l4 ?c4 ?k4 ?a5 ?l5 ?c5 ?k5 ?a6 ?l6 ?c6 ?k6 ?a7 ?l7 ?c7 ?k7 ?a8 ?l8 ?c8 ?k8 ?a9 ?l9 ?c9 ?k9 ?a10 ?l10 ?c10 ?k10 ?a11 ?l11 ?c11 ?k11 ?a12 ?l12 ?c12 ?k12 ?a13 ?l13 ?c13 ?k13 ?a14 ?l14 ?c14 ?k14 ?a15 ?l15 ?c15 ?k15 ?a16 ?l16 ?c16 ?k16 ?a17 ?l17 ?c17 ?k17 ?a18 ?l18 ?c18 ?k18 ?a19 ?i19 ?l19 ?c19 ?k19 ?a20 ?l20 ?c20 ?k20 ?a21 ?l21 ?c21 ?k21 ?a22 ?l22 ?c22 ?k22 ?a23 ?l23 ?c23 ?k23 ?a24 ?l24 ?c24 ?k24 ?a25 ?l25 ?c25 ?k25 ?a26 ?l26 ?c26 ?k26 ?a27 ?l27 ?c27 ?k27 ?a28 ?l28 ?c28 ?k28 ?a29 ?l29 ?c29 ?k29 ?a30 ?l30 ?c30 ?k30 ?a31 ?i31 ?l31 ?c31 ?k31 ?a32 ?l32 ?c32 ?k32 ?a33 ?l33 ?c33 ?k33 ?a34 ?l34 ?c34 ?k34 ?a35 ?l35 ?c35 ?k35 ?a36 ?l36 ?c36 ?k36 ?a37 ?i37 ?l37 ?c37 ?k37 ?a38 ?l38 ?c38 ?k38 ?a39 ?l39 ?c39 ?k39 ?a40 ?l40 ?c40 ?k40 ?a41 ?l41 ?c41 ?k41 ?a42 ?i42 ?l42 ?c42 ?k42 ?a43 ?l43 ?c43 ?k43 ?a44 ?i44 ?l44 ?c44 ?k44 ?a45 ?x45 ?y45 ?z45 ?l45 ?c45 ?k45 ?a46 ?l46 ?c46 ?k46 ?a47 ?x47 ?y47 ?z47 ?l47 ?c47 ?k47 ?a48 ?x48 ?y48 ?z48 ?l48 ?c48 ?k48 ?a49 ?i49 ?l49 ?c49 ?k49 ?a50 ?l50 ?c50 ?k50 ?a51 ?x51 ?y51 ?z51 ?l51 ?c51 ?k51 ?a52 ?l52 ?c52 ?k52 ?a53 ?l53 ?c53 ?k53 ?a54 ?l54 ?c54 ?k54 ?a55 ?l55 ?c55 ?k55 ?a56 ?l56 ?c56 ?k56 ?a57 ?i57 ?l57 ?c57 ?k57 ?a58 ?i58 ?l58 ?c58 ?k58 ?a59 ?l59 ?c59 ?k59 ?a60 ?l60 ?c60 ?k60 ?a61 ?l61 ?c61 ?k61 ?a62 ?i62 ?l62 ?c62 ?k62 ?a63 ?i63 ?l63 ?c63 ?k63 ?a64 ?l64 ?c64 ?k64 ?a65 ?l65 ?c65 ?k65 ?s0a ?s0b ?s0c ?s0d ?s0e ?s1a ?s1b ?s1c ?s1d ?s1e ?s2a ?s2b ?s2c ?s2d ?s2e ?s3a ?s3b ?s3c ?s3d ?s3e ?s4a ?s4b ?s4c ?s4d ?s4e ?pgZ ?icZ ?poZ ?saZ ?mkZ ?kcZ ?caZ ?cmZ ?pgB ?icB ?poB ?saB ?mkB ?kcB ?caB ?cmB ?cn ?ct ?tyB ?stb ?nf ?ne ?b_len ?b_abs ?b_max ?b_min ?b_isinstance ?b_all ?b_any ?b_sum ?b_int ?b_bool ?b_tuple ?b_list ?b_range ?b_zip ?b_enumerate ?b_repr ?g_GREATEST ?e_GREATEST ?g_PAIR ?e_PAIR ?g_MOST_UNIT ?e_MOST_UNIT ?g_MOST_CLOCKS ?e_MOST_CLOCKS
    (case aZ => k_is)
    (case aB => k_is)
    (case a0 => k_is)
    (case l0 => k_is)
    (case c0 => k_is)
    (case k0 => k_is)
    (case a1 => k_is)
    (case l1 => k_is)
    (case c1 => k_is)
    (case k1 => k_is)
    (case a2 => k_is)
    (case l2 => k_is)
    (case c2 => k_is)
    (case k2 => k_is)
    (case a3 => k_is)
    (case l3 => k_is)
    (case c3 => k_is)
    (case k3 => k_is)
    (case a4 => k_is)
    (case l4 => k_is)
    (case c4 => k_is)
    (case k4 => k_is)
    (case a5 => k_is)
    (case l5 => k_is)
    (case c5 => k_is)
    (case k5 => k_is)
    (case a6 => k_is)
    (case l6 => k_is)
    (case c6 => k_is)
    (case k6 => k_is)
    (case a7 => k_is)
    (case l7 => k_is)
    (case c7 => k_is)
    (case k7 => k_is)
    (case a8 => k_is)
    (case l8 => k_is)
    (case c8 => k_is)
    (case k8 => k_is)
    (case a9 => k_is)
    (case l9 => k_is)
    (case c9 => k_is)
    (case k9 => k_is)
    (case a10 => k_is)
    (case l10 => k_is)
    (case c10 => k_is)
    (case k10 => k_is)
    (case a11 => k_is)
    (case l11 => k_is)
    (case c11 => k_is)
    (case k11 => k_is)
    (case a12 => k_is)
    (case l12 => k_is)
    (case c12 => k_is)
    (case k12 => k_is)
    (case a13 => k_is)
    (case l13 => k_is)
    (case c13 => k_is)
    (case k13 => k_is)
    (case a14 => k_is)
    (case l14 => k_is)
    (case c14 => k_is)
    (case k14 => k_is)
    (case a15 => k_is)
    (case l15 => k_is)
    (case c15 => k_is)
    (case k15 => k_is)
    (case a16 => k_is)
    (case l16 => k_is)
    (case c16 => k_is)
    (case k16 => k_is)
    (case a17 => k_is)
    (case l17 => k_is)
    (case c17 => k_is)
    (case k17 => k_is)
    (case a18 => k_is)
    (case l18 => k_is)
    (case c18 => k_is)
    (case k18 => k_is)
    (case a19 => k_is)
    (case i19 => k_is)
    (case l19 => k_is)
    (case c19 => k_is)
    (case k19 => k_is)
    (case a20 => k_is)
    (case l20 => k_is)
    (case c20 => k_is)
    (case k20 => k_is)
    (case a21 => k_is)
    (case l21 => k_is)
    (case c21 => k_is)
    (case k21 => k_is)
    (case a22 => k_is)
    (case l22 => k_is)
    (case c22 => k_is)
    (case k22 => k_is)
    (case a23 => k_is)
    (case l23 => k_is)
    (case c23 => k_is)
    (case k23 => k_is)
    (case a24 => k_is)
    (case l24 => k_is)
    (case c24 => k_is)
    (case k24 => k_is)
    (case a25 => k_is)
    (case l25 => k_is)
    (case c25 => k_is)
    (case k25 => k_is)
    (case a26 => k_is)
    (case l26 => k_is)
    (case c26 => k_is)
    (case k26 => k_is)
    (case a27 => k_is)
    (case l27 => k_is)
    (case c27 => k_is)
    (case k27 => k_is)
    (case a28 => k_is)
    (case l28 => k_is)
    (case c28 => k_is)
    (case k28 => k_is)
    (case a29 => k_is)
    (case l29 => k_is)
    (case c29 => k_is)
    (case k29 => k_is)
    (case a30 => k_is)
    (case l30 => k_is)
    (case c30 => k_is)
    (case k30 => k_is)
    (case a31 => k_is)
    (case i31 => k_is)
    (case l31 => k_is)
    (case c31 => k_is)
    (case k31 => k_is)
    (case a32 => k_is)
    (case l32 => k_is)
    (case c32 => k_is)
    (case k32 => k_is)
    (case a33 => k_is)
    (case l33 => k_is)
    (case c33 => k_is)
    (case k33 => k_is)
    (case a34 => k_is)
    (case l34 => k_is)
    (case c34 => k_is)
    (case k34 => k_is)
    (case a35 => k_is)
    (case l35 => k_is)
    (case c35 => k_is)
    (case k35 => k_is)
    (case a36 => k_is)
    (case l36 => k_is)
    (case c36 => k_is)
    (case k36 => k_is)
    (case a37 => k_is)
    (case i37 => k_is)
    (case l37 => k_is)
    (case c37 => k_is)
    (case k37 => k_is)
    (case a38 => k_is)
    (case l38 => k_is)
    (case c38 => k_is)
    (case k38 => k_is)
    (case a39 => k_is)
    (case l39 => k_is)
    (case c39 => k_is)
    (case k39 => k_is)
    (case a40 => k_is)
    (case l40 => k_is)
    (case c40 => k_is)
    (case k40 => k_is)
    (case a41 => k_is)
    (case l41 => k_is)
    (case c41 => k_is)
    (case k41 => k_is)
    (case a42 => k_is)
    (case i42 => k_is)
    (case l42 => k_is)
    (case c42 => k_is)
    (case k42 => k_is)
    (case a43 => k_is)
    (case l43 => k_is)
    (case c43 => k_is)
    (case k43 => k_is)
    (case a44 => k_is)
    (case i44 => k_is)
    (case l44 => k_is)
    (case c44 => k_is)
    (case k44 => k_is)
    (case a45 => k_is)
    (case x45 => k_is)
    (case y45 => k_is)
    (case z45 => k_is)
    (case l45 => k_is)
    (case c45 => k_is)
    (case k45 => k_is)
    (case a46 => k_is)
    (case l46 => k_is)
    (case c46 => k_is)
    (case k46 => k_is)
    (case a47 => k_is)
    (case x47 => k_is)
    (case y47 => k_is)
    (case z47 => k_is)
    (case l47 => k_is)
    (case c47 => k_is)
    (case k47 => k_is)
    (case a48 => k_is)
    (case x48 => k_is)
    (case y48 => k_is)
    (case z48 => k_is)
    (case l48 => k_is)
    (case c48 => k_is)
    (case k48 => k_is)
    (case a49 => k_is)
    (case i49 => k_is)
    (case l49 => k_is)
    (case c49 => k_is)
    (case k49 => k_is)
    (case a50 => k_is)
    (case l50 => k_is)
    (case c50 => k_is)
    (case k50 => k_is)
    (case a51 => k_is)
    (case x51 => k_is)
    (case y51 => k_is)
    (case z51 => k_is)
    (case l51 => k_is)
    (case c51 => k_is)
    (case k51 => k_is)
    (case a52 => k_is)
    (case l52 => k_is)
    (case c52 => k_is)
    (case k52 => k_is)
    (case a53 => k_is)
    (case l53 => k_is)
    (case c53 => k_is)
    (case k53 => k_is)
    (case a54 => k_is)
    (case l54 => k_is)
    (case c54 => k_is)
    (case k54 => k_is)
    (case a55 => k_is)
    (case l55 => k_is)
    (case c55 => k_is)
    (case k55 => k_is)
    (case a56 => k_is)
    (case l56 => k_is)
    (case c56 => k_is)
    (case k56 => k_is)
    (case a57 => k_is)
    (case i57 => k_is)
    (case l57 => k_is)
    (case c57 => k_is)
    (case k57 => k_is)
    (case a58 => k_is)
    (case i58 => k_is)
    (case l58 => k_is)
    (case c58 => k_is)
    (case k58 => k_is)
    (case a59 => k_is)
    (case l59 => k_is)
    (case c59 => k_is)
    (case k59 => k_is)
    (case a60 => k_is)
    (case l60 => k_is)
    (case c60 => k_is)
    (case k60 => k_is)
    (case a61 => k_is)
    (case l61 => k_is)
    (case c61 => k_is)
    (case k61 => k_is)
    (case a62 => k_is)
    (case i62 => k_is)
    (case l62 => k_is)
    (case c62 => k_is)
    (case k62 => k_is)
    (case a63 => k_is)
    (case i63 => k_is)
    (case l63 => k_is)
    (case c63 => k_is)
    (case k63 => k_is)
    (case a64 => k_is)
    (case l64 => k_is)
    (case c64 => k_is)
    (case k64 => k_is)
    (case a65 => k_is)
    (case l65 => k_is)
    (case c65 => k_is)
    (case k65 => k_is)
    (case s0a => k_is)
    (case s0b => k_is)
    (case s0c => k_is)
    (case s0d => k_is)
    (case s0e => k_is)
    (case s1a => k_is)
    (case s1b => k_is)
    (case s1c => k_is)
    (case s1d => k_is)
    (case s1e => k_is)
    (case s2a => k_is)
    (case s2b => k_is)
    (case s2c => k_is)
    (case s2d => k_is)
    (case s2e => k_is)
    (case s3a => k_is)
    (case s3b => k_is)
    (case s3c => k_is)
    (case s3d => k_is)
    (case s3e => k_is)
    (case s4a => k_is)
    (case s4b => k_is)
    (case s4c => k_is)
    (case s4d => k_is)
    (case s4e => k_is)
    (case pgZ => k_is)
    (case icZ => k_is)
    (case poZ => k_is)
    (case saZ => k_is)
    (case mkZ => k_is)
    (case kcZ => k_is)
    (case caZ => k_is)
    (case cmZ => k_is)
    (case pgB => k_is)
    (case icB => k_is)
    (case poB => k_is)
    (case saB => k_is)
    (case mkB => k_is)
    (case kcB => k_is)
    (case caB => k_is)
    (case cmB => k_is)
    (case cn => k_is)
    (case ct => k_is)
    (case tyB => k_is)
    (case stb => k_is)
    (case nf => k_is)
    (case ne => k_is)
    (case b_len => k_is)
    (case b_abs => k_is)
    (case b_max => k_is)
    (case b_min => k_is)
    (case b_isinstance => k_is)
    (case b_all => k_is)
    (case b_any => k_is)
    (case b_sum => k_is)
    (case b_int => k_is)
    (case b_bool => k_is)
    (case b_tuple => k_is)
    (case b_list => k_is)
    (case b_range => k_is)
    (case b_zip => k_is)
    (case b_enumerate => k_is)
    (case b_repr => k_is)
    (case g_GREATEST => k_is)
    (case e_GREATEST => rfl)
    (case g_PAIR => k_is)
    (case e_PAIR => rfl)
    (case g_MOST_UNIT => k_is)
    (case e_MOST_UNIT => rfl)
    (case g_MOST_CLOCKS => k_is)
    (case e_MOST_CLOCKS => rfl)
